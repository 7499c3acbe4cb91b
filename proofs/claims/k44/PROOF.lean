import PyProof.Rows.All
import Wide.All
import OpenK.AllK
import Wide.FinOn
import HandS.ForMost
import HandS.Exc
import HandS.TryOnly
import HandS.ExcOwn
import HandS.WordsExc
import HandS.CallSlots
import HandS.Defaults
import HandS.TupAny
import HandS.TupMul
import HandS.Wide
import HandS.WideBits
import HandS.DictComp
import HandS.Zip
import HandS.IsInst
import HandS.RaiseMore
import PyProof.ReprReads
import HandS.Deep
import HandS.WordsDict
import HandS.SortInts
import PyProof.Rows.SortShellAny
import KE.DataMinMax
import KE.KDictList
import HandS.Conv
import HandS.Ends
import HandS.EndBits
import PyProof.ReprRoads
import HandS.HeadEnd
import HandS.HeadHook1
import HandS.HeadHook2
import HandS.Words
import PyProof.Rows.RegStrFacts
import KE.KStateDown
import Lean
import HandS.Head0
import HandS.Head1
import HandS.Head2
import PyProof.Rows.StrMeet
import PySem.Challenge.RW_looplearn_k44_loops_till_grown
set_option Elab.async false
set_option linter.all false
set_option maxRecDepth 100000
set_option maxHeartbeats 0
/-! Y1: values as trees (D), owned mutable objects (Gp), their relation to the layer's V and Hp, readings over them, lifts. -/
namespace Y
open PySem PySem.Spec PyProof.Rows L2

abbrev DKey := Sum Int (List Nat)
/-- a value: tuples and lists that nobody changes are trees; ref: an object that is owned (Gp), a def, a class -/
inductive D where
  | non | bl (b : Bool) | int (i : Int) | str (s : List Nat) | tup (ds : List D) | lst (ds : List D) | scr (ns : List Int) | ref (a : Addr) | ty (n : String)
/-- what stands at an owned address -/
inductive GO where
  | lst (ds : List D)
  | dic (kvs : List (DKey × D))
  | ins (C : Addr) (fs : List (Str × D))
  | prv
abbrev Gp := Addr → Option GO
def Gp.set (G : Gp) (a : Addr) (o : GO) : Gp := fun b => if b = a then some o else G b
def Gp.del (G : Gp) (a : Addr) : Gp := fun b => if b = a then none else G b
theorem Gp.set_same {G : Gp} {a : Addr} {o : GO} : G.set a o a = some o := if_pos rfl
theorem Gp.set_ne {G : Gp} {a b : Addr} {o : GO} (h : b ≠ a) : G.set a o b = G b := if_neg h
theorem Gp.del_same {G : Gp} {a : Addr} : G.del a a = none := if_pos rfl
theorem Gp.del_ne {G : Gp} {a b : Addr} (h : b ≠ a) : G.del a b = G b := if_neg h
/-- a text of these signs -/
abbrev St (l : List Nat) : Str := ⟨l.toArray⟩
def kS : DKey → Key
  | .inl i => .inl i
  | .inr l => .inr (St l)
def kD : DKey → D
  | .inl i => .int i
  | .inr l => .str l

mutual
inductive Rel (G : Gp) (H : Hp) : D → V → Prop where
  | non : Rel G H .non .non
  | bl (b : Bool) : Rel G H (.bl b) (.bl b)
  | int (i : Int) : Rel G H (.int i) (.int i)
  | str (l : List Nat) : Rel G H (.str l) (.str (St l))
  | tup {a : Addr} {ds : List D} {vs : List V} : H a = some (.tup vs) → G a = none → Rels G H ds vs → Rel G H (.tup ds) (.ref a)
  | lst {a : Addr} {ds : List D} {vs : List V} : H a = some (.lst vs) → G a = none → Rels G H ds vs → Rel G H (.lst ds) (.ref a)
  | scr {a : Addr} {ns : List Int} : Rd H a (.lst (ns.map V.int)) → G a = none → Rel G H (.scr ns) (.ref a)
  | ref (a : Addr) : Rel G H (.ref a) (.ref a)
  | ty (n : String) : Rel G H (.ty n) (.ty n)
inductive Rels (G : Gp) (H : Hp) : List D → List V → Prop where
  | nil : Rels G H [] []
  | cons {d : D} {v : V} {ds : List D} {vs : List V} : Rel G H d v → Rels G H ds vs → Rels G H (d :: ds) (v :: vs)
end

/-- an owned object as it lies -/
def AbsO (G : Gp) (H : Hp) (a : Addr) : GO → Prop
  | .lst ds => ∃ vs, H a = some (.lst vs) ∧ Rels G H ds vs
  | .dic kvs => ∃ ws, H a = some (.dK ws) ∧ Paired (fun p q => kS p.1 = q.1 ∧ Rel G H p.2 q.2) kvs ws
  | .ins C fs => ∃ dx ws, H a = some (.ins C dx ws) ∧ Paired (fun p q => p.1 = q.1 ∧ Rel G H p.2 q.2) fs ws
  | .prv => ∃ u, H a = some u
def Abs (G : Gp) (H : Hp) : Prop := ∀ a o, G a = some o → AbsO G H a o
/-- what is tracked and not owned stays, and stays so -/
def Stp (G : Gp) (H : Hp) (G' : Gp) (H' : Hp) : Prop := ∀ a o, H a = some o → G a = none → H' a = some o ∧ G' a = none
theorem Stp.refl {G : Gp} {H : Hp} : Stp G H G H := fun _ _ h g => ⟨h, g⟩
theorem Stp.trans {G G1 G2 : Gp} {H H1 H2 : Hp} (a : Stp G H G1 H1) (b : Stp G1 H1 G2 H2) : Stp G H G2 H2 := fun x o h g =>
  let ⟨h1, g1⟩ := a x o h g
  b x o h1 g1

section
variable {G G' G1 : Gp} {H H' H1 : Hp}
mutual
theorem Rel.stp : ∀ {d : D} {v : V}, Rel G H d v → Stp G H G' H' → Rel G' H' d v
  | _, _, .non, _ => .non
  | _, _, .bl b, _ => .bl b
  | _, _, .int i, _ => .int i
  | _, _, .str l, _ => .str l
  | _, _, .tup h g r, s => .tup (s _ _ h g).1 (s _ _ h g).2 (Rels.stp r s)
  | _, _, .lst h g r, s => .lst (s _ _ h g).1 (s _ _ h g).2 (Rels.stp r s)
  | _, _, .scr h g, s => by
    rcases h with h | ⟨o, h⟩
    · exact .scr (.inl (s _ _ h g).1) (s _ _ h g).2
    · exact .scr (.inr ⟨o, (s _ _ h g).1⟩) (s _ _ h g).2
  | _, _, .ref a, _ => .ref a
  | _, _, .ty n, _ => .ty n
theorem Rels.stp : ∀ {ds : List D} {vs : List V}, Rels G H ds vs → Stp G H G' H' → Rels G' H' ds vs
  | _, _, .nil, _ => .nil
  | _, _, .cons a b, s => .cons (Rel.stp a s) (Rels.stp b s)
end
theorem Rels.len : ∀ {ds : List D} {vs : List V}, Rels G H ds vs → ds.length = vs.length
  | _, _, .nil => rfl
  | _, _, .cons _ b => congrArg (· + 1) (Rels.len b)
theorem Rels.get : ∀ {ds : List D} {vs : List V} {i : Nat} {d : D}, Rels G H ds vs → ds[i]? = some d → ∃ v, vs[i]? = some v ∧ Rel G H d v
  | _, _, 0, _, .cons a _, e => ⟨_, rfl, by cases e; exact a⟩
  | _, _, i + 1, d, .cons _ b, e => by
    obtain ⟨v, h1, h2⟩ := Rels.get (i := i) (d := d) b (by simpa using e)
    exact ⟨v, by simpa using h1, h2⟩
theorem Rels.getV : ∀ {ds : List D} {vs : List V} {i : Nat} {v : V}, Rels G H ds vs → vs[i]? = some v → ∃ d, ds[i]? = some d ∧ Rel G H d v
  | _, _, 0, _, .cons a _, e => ⟨_, rfl, by cases e; exact a⟩
  | _, _, i + 1, v, .cons _ b, e => by
    obtain ⟨d, h1, h2⟩ := Rels.getV (i := i) (v := v) b (by simpa using e)
    exact ⟨d, by simpa using h1, h2⟩
theorem Rels.append : ∀ {ds es : List D} {vs us : List V}, Rels G H ds vs → Rels G H es us → Rels G H (ds ++ es) (vs ++ us)
  | _, _, _, _, .nil, h => h
  | _, _, _, _, .cons a b, h => .cons a (Rels.append b h)
theorem Rels.take : ∀ {ds : List D} {vs : List V} (n : Nat), Rels G H ds vs → Rels G H (ds.take n) (vs.take n)
  | _, _, 0, _ => by simpa using Rels.nil
  | _, _, n + 1, .nil => .nil
  | _, _, n + 1, .cons a b => .cons a (Rels.take n b)
theorem Rels.drop : ∀ {ds : List D} {vs : List V} (n : Nat), Rels G H ds vs → Rels G H (ds.drop n) (vs.drop n)
  | _, _, 0, h => h
  | _, _, n + 1, .nil => .nil
  | _, _, n + 1, .cons a b => Rels.drop n b
theorem Rels.set {d : D} {v : V} (r : Rel G H d v) : ∀ {ds : List D} {vs : List V} (n : Nat), Rels G H ds vs → Rels G H (ds.set n d) (vs.set n v)
  | _, _, _, .nil => .nil
  | _, _, 0, .cons _ b => .cons r b
  | _, _, n + 1, .cons a b => .cons a (Rels.set r n b)
theorem Rels.eraseIdx : ∀ {ds : List D} {vs : List V} (n : Nat), Rels G H ds vs → Rels G H (ds.eraseIdx n) (vs.eraseIdx n)
  | _, _, _, .nil => .nil
  | _, _, 0, .cons _ b => b
  | _, _, n + 1, .cons a b => .cons a (Rels.eraseIdx n b)
theorem Rels.ints : ∀ {ns : List Int} {vs : List V}, Rels G H (ns.map D.int) vs → vs = ns.map V.int
  | [], _, .nil => rfl
  | _ :: _, _, .cons (.int _) b => by rw [Rels.ints b]; rfl
theorem Rels.of_ints : ∀ (ns : List Int), Rels G H (ns.map D.int) (ns.map V.int)
  | [] => .nil
  | n :: r => .cons (.int n) (Rels.of_ints r)
theorem Rels.bls : ∀ {ns : List Bool} {vs : List V}, Rels G H (ns.map D.bl) vs → vs = ns.map V.bl
  | [], _, .nil => rfl
  | _ :: _, _, .cons (.bl _) b => by rw [Rels.bls b]; rfl
theorem Rels.strs : ∀ {ns : List (List Nat)} {vs : List V}, Rels G H (ns.map D.str) vs → vs = (ns.map St).map V.str
  | [], _, .nil => rfl
  | _ :: _, _, .cons (.str _) b => by rw [Rels.strs b]; rfl
theorem Rels.of_strs : ∀ (ns : List (List Nat)), Rels G H (ns.map D.str) ((ns.map St).map V.str)
  | [] => .nil
  | n :: r => .cons (.str n) (Rels.of_strs r)
theorem pair_stp {α β : Type} {f : α → β} : ∀ {l : List (α × D)} {m : List (β × V)}, Paired (fun p q => f p.1 = q.1 ∧ Rel G H p.2 q.2) l m → Stp G H G' H' → Paired (fun p q => f p.1 = q.1 ∧ Rel G' H' p.2 q.2) l m
  | _, _, .nil, _ => .nil
  | _, _, .cons a b, s => .cons ⟨a.1, a.2.stp s⟩ (pair_stp b s)
theorem AbsO.tracked {a : Addr} {o : GO} (h : AbsO G H a o) : ∃ u, H a = some u := by
  cases o with
  | lst ds => obtain ⟨vs, h, _⟩ := h; exact ⟨_, h⟩
  | dic kvs => obtain ⟨ws, h, _⟩ := h; exact ⟨_, h⟩
  | ins C fs => obtain ⟨dx, ws, h, _⟩ := h; exact ⟨_, h⟩
  | prv => exact h
theorem Abs.free {a : Addr} (h : Abs G H) (e : H a = none) : G a = none := by
  cases q : G a with
  | none => rfl
  | some o =>
    obtain ⟨u, hu⟩ := (h a o q).tracked
    rw [e] at hu
    cases hu
/-- an object as it lies, behind a step that left its own address alone -/
theorem AbsO.stp {a : Addr} {o : GO} (h : AbsO G H a o) (s : Stp G H G' H') (e : H' a = H a) : AbsO G' H' a o := by
  cases o with
  | lst ds => obtain ⟨vs, h, r⟩ := h; exact ⟨vs, e.trans h, r.stp s⟩
  | dic kvs => obtain ⟨ws, h, r⟩ := h; exact ⟨ws, e.trans h, pair_stp r s⟩
  | ins C fs => obtain ⟨dx, ws, h, r⟩ := h; exact ⟨dx, ws, e.trans h, pair_stp (f := fun x => x) r s⟩
  | prv => obtain ⟨u, h⟩ := h; exact ⟨u, e.trans h⟩
/-! ### the steps -/
/-- a new thing that is not owned -/
theorem Stp.new {p : Addr} {o : HO} (hp : H p = none) : Stp G H G (upd H p o) := fun a u h g => ⟨by rw [upd_ne (ne_of_none h hp)]; exact h, g⟩
theorem Abs.new {p : Addr} {o : HO} (h : Abs G H) (hp : H p = none) : Abs G (upd H p o) := fun a u e => (h a u e).stp (Stp.new hp) (by
  obtain ⟨w, hw⟩ := (h a u e).tracked
  rw [upd_ne (ne_of_none hw hp)])
/-- a new thing that is owned -/
theorem Stp.newO {p : Addr} {o : HO} {g : GO} (hp : H p = none) : Stp G H (G.set p g) (upd H p o) := fun a u h e =>
  have n : a ≠ p := ne_of_none h hp
  ⟨by rw [upd_ne n]; exact h, by rw [Gp.set_ne n]; exact e⟩
theorem Abs.newO {p : Addr} {o : HO} {g : GO} (h : Abs G H) (hp : H p = none) (hg : AbsO (G.set p g) (upd H p o) p g) : Abs (G.set p g) (upd H p o) := fun a u e => by
  by_cases n : a = p
  · subst n
    rw [Gp.set_same] at e
    cases e
    exact hg
  · rw [Gp.set_ne n] at e
    exact (h a u e).stp (Stp.newO hp) (by rw [upd_ne n])
/-- an owned thing changes -/
theorem Stp.chg {p : Addr} {o : HO} {g g0 : GO} (hp : G p = some g0) : Stp G H (G.set p g) (upd H p o) := fun a u h e =>
  have n : a ≠ p := fun z => by rw [z, hp] at e; cases e
  ⟨by rw [upd_ne n]; exact h, by rw [Gp.set_ne n]; exact e⟩
theorem Abs.chg {p : Addr} {o : HO} {g g0 : GO} (h : Abs G H) (hp : G p = some g0) (hg : AbsO (G.set p g) (upd H p o) p g) : Abs (G.set p g) (upd H p o) := fun a u e => by
  by_cases n : a = p
  · subst n
    rw [Gp.set_same] at e
    cases e
    exact hg
  · rw [Gp.set_ne n] at e
    exact (h a u e).stp (Stp.chg hp) (by rw [upd_ne n])
/-! ### forgetting -/
def Le (G' G : Gp) : Prop := ∀ a o, G' a = some o → G a = some o
theorem Le.refl : Le G G := fun _ _ h => h
theorem Le.trans (a : Le G G1) (b : Le G1 G') : Le G G' := fun x o h => b x o (a x o h)
theorem Le.none (h : Le G' G) {a : Addr} (e : G a = none) : G' a = none := by
  cases q : G' a with
  | none => rfl
  | some o => rw [h a o q] at e; cases e
theorem Le.stp (h : Le G' G) : Stp G H G' H := fun a o e g => ⟨e, h.none g⟩
theorem Abs.le (x : Abs G H) (h : Le G' G) : Abs G' H := fun a o e => (x a o (h a o e)).stp h.stp rfl
theorem Le.del {a : Addr} : Le (G.del a) G := fun b o h => by
  by_cases n : b = a
  · subst n
    rw [Gp.del_same] at h
    cases h
  · rwa [Gp.del_ne n] at h
/-- an owned list, let go, is a tree -/
theorem Rel.freeze {p : Addr} {ds : List D} (x : Abs G H) (h : G p = some (.lst ds)) : Rel (G.del p) H (.lst ds) (.ref p) := by
  obtain ⟨vs, e, r⟩ := x p _ h
  exact .lst e Gp.del_same (r.stp Le.del.stp)
end

/-! ### private addresses: owned, but not by the reading -/
abbrev Pv := Addr → Prop
open Classical in
noncomputable def Ov (P : Pv) (G : Gp) : Gp := fun a => if P a then some .prv else G a
theorem Ov_in {P : Pv} {G : Gp} {a : Addr} (h : P a) : Ov P G a = some .prv := if_pos h
theorem Ov_out {P : Pv} {G : Gp} {a : Addr} (h : ¬ P a) : Ov P G a = G a := if_neg h
theorem Ov_none {P : Pv} {G : Gp} {a : Addr} : Ov P G a = none ↔ ¬ P a ∧ G a = none := by
  by_cases h : P a
  · rw [Ov_in h]; exact ⟨fun z => (by cases z), fun z => absurd h z.1⟩
  · rw [Ov_out h]; exact ⟨fun z => ⟨h, z⟩, fun z => z.2⟩
theorem Ov_set {P : Pv} {G : Gp} {a : Addr} {o : GO} (h : ¬ P a) : Ov P (G.set a o) = (Ov P G).set a o := by
  funext b
  by_cases e : b = a
  · subst e
    rw [Ov_out h, Gp.set_same, Gp.set_same]
  · rw [Gp.set_ne e]
    by_cases q : P b
    · rw [Ov_in q, Ov_in q]
    · rw [Ov_out q, Ov_out q, Gp.set_ne e]
theorem Ov_del {P : Pv} {G : Gp} {a : Addr} (h : ¬ P a) : Ov P (G.del a) = (Ov P G).del a := by
  funext b
  by_cases e : b = a
  · subst e
    rw [Ov_out h, Gp.del_same, Gp.del_same]
  · rw [Gp.del_ne e]
    by_cases q : P b
    · rw [Ov_in q, Ov_in q]
    · rw [Ov_out q, Ov_out q, Gp.del_ne e]
theorem Ov_le {P : Pv} {G G' : Gp} (h : Le G' G) : Le (Ov P G') (Ov P G) := fun a o e => by
  by_cases q : P a
  · rw [Ov_in q] at e ⊢
    exact e
  · rw [Ov_out q] at e ⊢
    exact h a o e
/-- one more private address -/
def Pv.add (P : Pv) (p : Addr) : Pv := fun a => a = p ∨ P a
theorem Ov_add {P : Pv} {G : Gp} {p : Addr} : Ov (P.add p) G = (Ov P G).set p .prv := by
  funext b
  by_cases e : b = p
  · subst e
    rw [Ov_in (.inl rfl), Gp.set_same]
  · rw [Gp.set_ne e]
    by_cases q : P b
    · rw [Ov_in (.inr q), Ov_in q]
    · rw [Ov_out (fun z => z.elim e q), Ov_out q]
/-- the world of a reading: what it owns, what others own, the heap -/
structure Wd (P : Pv) (G : Gp) (H : Hp) : Prop where
  dis : ∀ a, P a → G a = none
  abs : Abs (Ov P G) H
abbrev Rl (P : Pv) (G : Gp) (H : Hp) (d : D) (v : V) : Prop := Rel (Ov P G) H d v
abbrev Rls (P : Pv) (G : Gp) (H : Hp) (d : List D) (v : List V) : Prop := Rels (Ov P G) H d v
structure Sp' (P : Pv) (G : Gp) (H : Hp) (G' : Gp) (H' : Hp) : Prop where
  s : Stp (Ov P G) H (Ov P G') H'
  p : ∀ a, P a → H' a = H a
theorem Sp'.refl {P : Pv} {G : Gp} {H : Hp} : Sp' P G H G H := ⟨Stp.refl, fun _ _ => rfl⟩
theorem Sp'.trans {P : Pv} {G G1 G2 : Gp} {H H1 H2 : Hp} (a : Sp' P G H G1 H1) (b : Sp' P G1 H1 G2 H2) : Sp' P G H G2 H2 := ⟨a.s.trans b.s, fun x h => (b.p x h).trans (a.p x h)⟩
section
variable {P : Pv} {G G' : Gp} {H H' : Hp} {p : Addr}
theorem Wd.ofree (w : Wd P G H) (h : H p = none) : Ov P G p = none := w.abs.free h
theorem Wd.free (w : Wd P G H) (h : H p = none) : G p = none := (Ov_none.mp (w.ofree h)).2
theorem Wd.npv (w : Wd P G H) (h : H p = none) : ¬ P p := (Ov_none.mp (w.ofree h)).1
theorem Wd.npo (w : Wd P G H) {o : GO} (h : G p = some o) : ¬ P p := fun z => by rw [w.dis p z] at h; cases h
theorem Wd.new {o : HO} (w : Wd P G H) (h : H p = none) : Wd P G (upd H p o) := ⟨w.dis, w.abs.new h⟩
theorem Wd.at (w : Wd P G H) {o : GO} (h : G p = some o) : AbsO (Ov P G) H p o := w.abs p o (by rw [Ov_out (w.npo h)]; exact h)
theorem Sp'.newO {o : HO} {g : GO} (w : Wd P G H) (h : H p = none) : Sp' P G H (G.set p g) (upd H p o) := by
  refine ⟨?_, fun a z => upd_ne fun e => w.npv h (by rw [← e]; exact z)⟩
  rw [Ov_set (w.npv h)]
  exact Stp.newO h
theorem Sp'.new {o : HO} (w : Wd P G H) (h : H p = none) : Sp' P G H G (upd H p o) := ⟨Stp.new h, fun a z => upd_ne fun e => w.npv h (by rw [← e]; exact z)⟩
theorem Wd.newO {o : HO} {g : GO} (w : Wd P G H) (h : H p = none) (hg : AbsO (Ov P (G.set p g)) (upd H p o) p g) : Wd P (G.set p g) (upd H p o) := by
  refine ⟨fun a z => ?_, ?_⟩
  · rw [Gp.set_ne (fun (e : a = p) => w.npv h (by rw [← e]; exact z))]
    exact w.dis a z
  · rw [Ov_set (w.npv h)] at hg ⊢
    exact w.abs.newO h hg
theorem Sp'.chg {o : HO} {g g0 : GO} (w : Wd P G H) (h : G p = some g0) : Sp' P G H (G.set p g) (upd H p o) := by
  refine ⟨?_, fun a z => upd_ne fun e => w.npo h (by rw [← e]; exact z)⟩
  rw [Ov_set (w.npo h)]
  exact Stp.chg (g0 := g0) (by rw [Ov_out (w.npo h)]; exact h)
theorem Wd.chg {o : HO} {g g0 : GO} (w : Wd P G H) (h : G p = some g0) (hg : AbsO (Ov P (G.set p g)) (upd H p o) p g) : Wd P (G.set p g) (upd H p o) := by
  refine ⟨fun a z => ?_, ?_⟩
  · rw [Gp.set_ne (fun (e : a = p) => w.npo h (by rw [← e]; exact z))]
    exact w.dis a z
  · rw [Ov_set (w.npo h)] at hg ⊢
    exact w.abs.chg (by rw [Ov_out (w.npo h)]; exact h) hg
theorem Wd.le (w : Wd P G H) (h : Le G' G) : Wd P G' H := ⟨fun a z => h.none (w.dis a z), w.abs.le (Ov_le h)⟩
theorem Sp'.le (h : Le G' G) : Sp' P G H G' H := ⟨(Ov_le h).stp, fun _ _ => rfl⟩
theorem Rl.freeze {ds : List D} (w : Wd P G H) (h : G p = some (.lst ds)) : Rl P (G.del p) H (.lst ds) (.ref p) := by
  unfold Rl
  rw [Ov_del (w.npo h)]
  exact Rel.freeze w.abs (by rw [Ov_out (w.npo h)]; exact h)
end

/-! ### slots -/
abbrev DSt := List (Option D)
def RelS (G : Gp) (H : Hp) (σ : DSt) (τ : L2.St) : Prop := ∀ (i : Nat) (d : D), σ[i]? = some (some d) → ∃ v, τ[i]? = some (some v) ∧ Rel G H d v
section
variable {G G' : Gp} {H H' : Hp} {σ : DSt} {τ : L2.St}
theorem RelS.stp (h : RelS G H σ τ) (s : Stp G H G' H') : RelS G' H' σ τ := fun i d e =>
  let ⟨v, a, r⟩ := h i d e
  ⟨v, a, r.stp s⟩
theorem RelS.set {d : D} {v : V} (h : RelS G H σ τ) (l : σ.length = τ.length) (r : Rel G H d v) (i : Nat) : RelS G H (σ.set i (some d)) (τ.set i (some v)) := fun j e q => by
  by_cases n : i = j
  · subst n
    rw [List.getElem?_set] at q
    by_cases hi : i < σ.length
    · rw [if_pos rfl, if_pos hi] at q
      cases q
      exact ⟨v, by rw [List.getElem?_set, if_pos rfl, if_pos (l ▸ hi)], r⟩
    · rw [if_pos rfl, if_neg hi] at q
      cases q
  · rw [List.getElem?_set_ne n] at q
    obtain ⟨u, a, b⟩ := h j e q
    exact ⟨u, by rw [List.getElem?_set_ne n]; exact a, b⟩
end

/-! ### readings -/
abbrev DX := Value → Gp → Prop
abbrev DK := D → Gp → Prop
abbrev DE := DSt → Gp → DX → DK → Prop
abbrev DT := DSt → Gp → DX → (Bool → Gp → Prop) → Prop
abbrev DA := DSt → Gp → DX → (List D → Gp → Prop) → Prop
structure DEnds where
  nx : DSt → Gp → Prop
  rt : DK
  bk : DSt → Gp → Prop := fun _ _ => False
  ct : DSt → Gp → Prop := fun _ _ => False
  ex : DX := fun _ _ => False
abbrev DS := DEnds → DSt → Gp → Prop

/-- where a reading over trees stands over a heap: its slots, what it owns; the base's slots, the heap -/
structure At (P : Pv) (σ : DSt) (G : Gp) (τ : L2.St) (H : Hp) : Prop where
  wd : Wd P G H
  sl : RelS (Ov P G) H σ τ
  ln : σ.length = τ.length
theorem At.to {P : Pv} {σ : DSt} {G G' : Gp} {τ : L2.St} {H H' : Hp} (a : At P σ G τ H) (h : Wd P G' H') (s : Sp' P G H G' H') : At P σ G' τ H' := ⟨h, a.sl.stp s.s, a.ln⟩
theorem At.set {P : Pv} {σ : DSt} {G : Gp} {τ : L2.St} {H : Hp} {d : D} {v : V} (a : At P σ G τ H) (r : Rl P G H d v) (i : Nat) : At P (σ.set i (some d)) G (τ.set i (some v)) H :=
  ⟨a.wd, a.sl.set a.ln r i, by rw [List.length_set, List.length_set]; exact a.ln⟩
theorem At.le {P : Pv} {σ : DSt} {G G' : Gp} {τ : L2.St} {H : Hp} (a : At P σ G τ H) (h : Le G' G) : At P σ G' τ H := a.to (a.wd.le h) (Sp'.le h)

/-- what an exception's wish is worth from here on -/
def XOk (W : WX) (P : Pv) (G : Gp) (H : Hp) (τ : L2.St) (ex : DX) : Prop := ∀ c G', ex c G' → ∀ od H', Wd P G' H' → Sp' P G H G' H' → W c od τ H'
theorem XOk.to {W : WX} {P : Pv} {G G' : Gp} {H H' : Hp} {τ : L2.St} {ex : DX} (x : XOk W P G H τ ex) (s : Sp' P G H G' H') : XOk W P G' H' τ ex := fun c G2 e od H2 a t => x c G2 e od H2 a (s.trans t)
theorem XOk.none {W : WX} {P : Pv} {G : Gp} {H : Hp} {τ : L2.St} : XOk W P G H τ (fun _ _ => False) := fun _ _ e => e.elim
/-- what a wish over trees is worth over a heap -/
def KOk (P : Pv) (G : Gp) (H : Hp) (Qd : DK) (Q : VK) : Prop := ∀ d G', Qd d G' → ∀ v H', Rl P G' H' d v → Wd P G' H' → Sp' P G H G' H' → Q v H'
theorem KOk.to {P : Pv} {G G' : Gp} {H H' : Hp} {Qd : DK} {Q : VK} (k : KOk P G H Qd Q) (s : Sp' P G H G' H') : KOk P G' H' Qd Q := fun d G2 q v H2 r a t => k d G2 q v H2 r a (s.trans t)

def liftE (W : WX) (t : DE) : TE := fun τ H Q => ∃ P σ G ex Qd, At P σ G τ H ∧ XOk W P G H τ ex ∧ t σ G ex Qd ∧ KOk P G H Qd Q
def liftT (W : WX) (t : DT) : TT := fun τ H Q => ∃ P σ G ex Qd, At P σ G τ H ∧ XOk W P G H τ ex ∧ t σ G ex Qd ∧ ∀ b G', Qd b G' → ∀ H', Wd P G' H' → Sp' P G H G' H' → Q b H'
def liftA (W : WX) (t : DA) : TA := fun τ H Q => ∃ P σ G ex Qd, At P σ G τ H ∧ XOk W P G H τ ex ∧ t σ G ex Qd ∧ ∀ ds G', Qd ds G' → ∀ vs H', Rls P G' H' ds vs → Wd P G' H' → Sp' P G H G' H' → Q vs H'
/-- what a statement's ends are worth -/
structure EOk (W : WX) (P : Pv) (G : Gp) (H : Hp) (E : DEnds) (F : Ends) : Prop where
  nx : ∀ σ' G', E.nx σ' G' → ∀ τ' H', At P σ' G' τ' H' → Sp' P G H G' H' → F.nx τ' H'
  rt : ∀ d G', E.rt d G' → ∀ v H', Rl P G' H' d v → Wd P G' H' → Sp' P G H G' H' → F.rt v H'
  bk : ∀ σ' G', E.bk σ' G' → ∀ τ' H', At P σ' G' τ' H' → Sp' P G H G' H' → F.bk τ' H'
  ct : ∀ σ' G', E.ct σ' G' → ∀ τ' H', At P σ' G' τ' H' → Sp' P G H G' H' → F.ct τ' H'
  ex : ∀ c G', E.ex c G' → ∀ od τ' H', Wd P G' H' → Sp' P G H G' H' → W c od τ' H'
theorem EOk.to {W : WX} {P : Pv} {G G' : Gp} {H H' : Hp} {E : DEnds} {F : Ends} (x : EOk W P G H E F) (s : Sp' P G H G' H') : EOk W P G' H' E F :=
  ⟨fun a b c d e f g => x.nx a b c d e f (s.trans g), fun a b c d e f g h => x.rt a b c d e f g (s.trans h), fun a b c d e f g => x.bk a b c d e f (s.trans g),
    fun a b c d e f g => x.ct a b c d e f (s.trans g), fun a b c d e f g h => x.ex a b c d e f g (s.trans h)⟩
theorem EOk.xok {W : WX} {P : Pv} {G : Gp} {H : Hp} {E : DEnds} {F : Ends} {τ : L2.St} (x : EOk W P G H E F) : XOk W P G H τ E.ex := fun c G' e od H' a s => x.ex c G' e od τ H' a s
def liftS (W : WX) (t : DS) : TS := fun F τ H => ∃ P σ G E, At P σ G τ H ∧ EOk W P G H E F ∧ t E σ G

structure ME (X : Cx) (W : WX) (e : Expr) (t : DE) : Prop where
  pe : PE X e (liftE W t)
structure MT (X : Cx) (W : WX) (e : Expr) (t : DT) : Prop where
  pt : PT X e (liftT W t)
structure MA (X : Cx) (W : WX) (es : List Expr) (t : DA) : Prop where
  pa : PA X es (liftA W t)
structure MS (X : Cx) (W : WX) (s : Stmt) (t : DS) : Prop where
  ps : PS X s (liftS W t)
structure MSs (X : Cx) (W : WX) (s : List Stmt) (t : DS) : Prop where
  ps : PSs X s (liftS W t)

/-! ### the base judgements, weakened -/
theorem PE.imp {X : Cx} {e : Expr} {t t' : TE} (h : PE X e t) (i : ∀ σ H Q, t' σ H Q → t σ H Q) : PE X e t' := ⟨fun pins s σ H Q I q => h.run pins s σ H Q I (i σ H Q q)⟩
theorem PT.imp {X : Cx} {e : Expr} {t t' : TT} (h : PT X e t) (i : ∀ σ H Q, t' σ H Q → t σ H Q) : PT X e t' := ⟨fun pins s σ H Q I q => h.run pins s σ H Q I (i σ H Q q)⟩
theorem PA.imp {X : Cx} {e : List Expr} {t t' : TA} (h : PA X e t) (i : ∀ σ H Q, t' σ H Q → t σ H Q) : PA X e t' := ⟨fun pos pins s σ H Q I q => h.run pos pins s σ H Q I (i σ H Q q)⟩
theorem PS.imp {X : Cx} {e : Stmt} {t t' : TS} (h : PS X e t) (i : ∀ D σ H, t' D σ H → t D σ H) : PS X e t' := ⟨fun pins s σ H D I q => h.run pins s σ H D I (i D σ H q)⟩
theorem PSs.imp {X : Cx} {e : List Stmt} {t t' : TS} (h : PSs X e t) (i : ∀ D σ H, t' D σ H → t D σ H) : PSs X e t' := ⟨fun pins s σ H D I q => h.run pins s σ H D I (i D σ H q)⟩
theorem OpR.imp {X : Cx} {f : Value → Value → Sem Value} {r r' : R2} (h : OpR X f r) (i : ∀ x y H Q, r' x y H Q → r x y H Q) : OpR X f r' :=
  fun pins s σ H x y v u Q I rx ry q => h pins s σ H x y v u Q I rx ry (i x y H Q q)
theorem CallR.imp {X : Cx} {f : Value} {r r' : List V → Hp → VK → Prop} (h : CallR X f r) (i : ∀ xs H Q, r' xs H Q → r xs H Q) : CallR X f r' :=
  fun pins s σ H xs us Q I rx q => h pins s σ H xs us Q I rx (i xs H Q q)
theorem MtR.imp {X : Cx} {f : String} {r r' : V → List V → Hp → VK → Prop} (h : MtR X f r) (i : ∀ x xs H Q, r' x xs H Q → r x xs H Q) : MtR X f r' :=
  fun pins s σ H x xs v us Q I rx rs q => h pins s σ H x xs v us Q I rx rs (i x xs H Q q)
end Y
/-! Y2: expressions over trees: names, constants, operators by values, tests. -/
namespace Y
open PySem PySem.Spec PyProof.Rows L2

structure CxY (X : Cx) : Prop where
  calm : X.calm = true
  hu : X.A.units + 64 < cLine
  gd : X.A.guards = some []
  nd : X.N.Nodup

def slot : DSt → Nat → Option D
  | [], _ => none
  | o :: _, 0 => o
  | _ :: r, n + 1 => slot r n
theorem slot_get : ∀ {σ : DSt} {i : Nat} {d : D}, slot σ i = some d → σ[i]? = some (some d)
  | [], _, _, h => by cases h
  | o :: _, 0, d, h => by rw [List.getElem?_cons_zero]; exact congrArg some h
  | _ :: r, n + 1, d, h => by rw [List.getElem?_cons_succ]; exact slot_get h

section
variable {X : Cx} {W : WX}
/-! ### names, constants -/
def dVar (i : Nat) : DE := fun σ G _ Q => match slot σ i with
  | some d => Q d G
  | none => False
theorem me_var {i : Nat} {x : Str} {pos : Pos} (hN : X.N[i]? = some x) (hv : Vis X.env.scope x) (hd : (x == ("__debug__" : Str)) = false) (hcd : (x == ("__classdict__" : Str)) = false) : ME X W (.Name x pos) (dVar i) :=
  ⟨PE.imp (pe_var hN hv hd hcd) fun τ H Q ⟨P, σ, G, ex, Qd, a, _, h, k⟩ => by
    have h' : (match slot σ i with
      | some d => Qd d G
      | none => False) := h
    cases e : slot σ i with
    | none => rw [e] at h'; exact h'.elim
    | some d =>
      rw [e] at h'
      obtain ⟨v, hv, r⟩ := a.sl i d (slot_get e)
      exact ⟨v, hv, k d G h' v H r a.wd Sp'.refl⟩⟩
def dC (d : D) : DE := fun _ G _ Q => Q d G
theorem me_c {e : Expr} {v : V} {d : D} (h : PE X e (tC v)) (r : ∀ G H, Rel G H d v) : ME X W e (dC d) :=
  ⟨PE.imp h fun τ H Q ⟨P, σ, G, ex, Qd, a, _, h, k⟩ => k d G h v H (r _ H) a.wd Sp'.refl⟩
theorem me_int {i : Int} {j pos} : ME X W (.Constant (.int i) j pos) (dC (.int i)) := me_c pe_int fun _ _ => .int i
theorem me_bl {b : Bool} {j pos} : ME X W (.Constant (.bool b) j pos) (dC (.bl b)) := me_c pe_bl fun _ _ => .bl b
theorem me_non {j pos} : ME X W (.Constant .none j pos) (dC .non) := me_c pe_non fun _ _ => .non
theorem me_str {x : Str} {l : List Nat} {j pos} (h : x.cps.toList = l) : ME X W (.Constant (.str x) j pos) (dC (.str l)) := by
  subst h
  have e : St x.cps.toList = x := by cases x; rfl
  refine me_c pe_str fun _ _ => ?_
  have r : ∀ G H, Rel G H (.str x.cps.toList) (.str (St x.cps.toList)) := fun G H => .str _
  rw [e] at r
  exact r _ _

/-! ### operators by values -/
abbrev R2d := D → D → Gp → DK → Prop
abbrev R1d := D → Gp → DK → Prop
abbrev RCd := List D → Gp → DK → Prop
def liftR (r : R2d) : R2 := fun x y H Q => ∃ P dx dy G Qd, Wd P G H ∧ Rl P G H dx x ∧ Rl P G H dy y ∧ r dx dy G Qd ∧ KOk P G H Qd Q
def OpD (X : Cx) (f : Value → Value → Sem Value) (r : R2d) : Prop := OpR X f (liftR r)
def dOp (r : R2d) (ta tb : DE) : DE := fun σ G ex Q => ta σ G ex fun x G1 => tb σ G1 ex fun y G2 => r x y G2 Q
theorem bin_lift {r : R2d} {r' : R2} {ta tb : DE} (h : ∀ x y H Q, liftR r x y H Q → r' x y H Q) : ∀ τ H Q, liftE W (dOp r ta tb) τ H Q → tOp r' (liftE W ta) (liftE W tb) τ H Q := fun τ H Q ⟨P, σ, G, ex, Qd, a, x, t, k⟩ =>
  ⟨P, σ, G, ex, _, a, x, t, fun dx G1 h1 vx H1 rx a1 s1 =>
    ⟨P, σ, G1, ex, _, a.to a1 s1, x.to s1, h1, fun dy G2 h2 vy H2 ry a2 s2 => h _ _ _ _
      ⟨P, dx, dy, G2, Qd, a2, rx.stp s2.s, ry, h2, KOk.to k (s1.trans s2)⟩⟩⟩
theorem me_op {op : Operator} {r : R2d} {a b : Expr} {ta tb : DE} {pos : Pos} (ho : OpD X (binaryOp op) r) (ha : ME X W a ta) (hb : ME X W b tb) : ME X W (.BinOp a op b pos) (dOp r ta tb) :=
  ⟨PE.imp (pe_op ho ha.pe hb.pe) (bin_lift fun _ _ _ _ q => q)⟩
theorem me_cmp {op : CmpOp} {r : R2d} {a b : Expr} {ta tb : DE} {pos : Pos} (ho : OpD X (compareOp op) r) (ha : ME X W a ta) (hb : ME X W b tb) (hm : behindInMarks op b = false) : ME X W (.Compare a [op] [b] pos) (dOp r ta tb) :=
  ⟨PE.imp (pe_cmpR ho ha.pe hb.pe hm) (bin_lift fun _ _ _ _ q => q)⟩
/-- a value that is a truth, as a test -/
def dTest (t : DE) : DT := fun σ G ex Q => t σ G ex fun x G1 => match x with
  | .bl b => Q b G1
  | _ => False
theorem test_lift {t : DE} : ∀ τ H Q, liftT W (dTest t) τ H Q → tTest (liftE W t) τ H Q := fun τ H Q ⟨P, σ, G, ex, Qd, a, x, t, k⟩ =>
  ⟨P, σ, G, ex, _, a, x, t, fun d G1 h1 v H1 r a1 s1 => by
    cases d with
    | bl b =>
      cases r
      exact ⟨b, rfl, k b G1 h1 H1 a1 s1⟩
    | _ => exact h1.elim⟩
theorem mt_cmp {op : CmpOp} {r : R2d} {a b : Expr} {ta tb : DE} {pos : Pos} (ho : OpD X (compareOp op) r) (ha : ME X W a ta) (hb : ME X W b tb) (hm : behindInMarks op b = false) : MT X W (.Compare a [op] [b] pos) (dTest (dOp r ta tb)) :=
  ⟨PT.imp (pt_cmpR ho ha.pe hb.pe hm) fun τ H Q q => by
    obtain ⟨P, σ, G, ex, Qd, c1, x, t, k⟩ := test_lift τ H Q q
    exact bin_lift (W := W) (r' := liftR r) (ta := ta) (tb := tb) (fun _ _ _ _ q => q) τ H _ ⟨P, σ, G, ex, Qd, c1, x, t, k⟩⟩
theorem mt_val {e : Expr} {t : DE} (h : ME X W e t) (he : ∀ whole, isTrue e X.env whole = (do let v ← whole; standAt e.pos; holding [v] (truthy v))) : MT X W e (dTest t) :=
  ⟨PT.imp (pt_val h.pe he) test_lift⟩
/-- two comparisons, one behind the other -/
def dChain (r r' : R2d) (ta tb tc : DE) : DE := fun σ G ex Q => ta σ G ex fun x G1 => tb σ G1 ex fun y G2 => r x y G2 fun z G3 => match z with
  | .bl true => tc σ G3 ex fun w G4 => r' y w G4 Q
  | .bl false => Q (.bl false) G3
  | _ => False
theorem chain_lift {r r' : R2d} {ta tb tc : DE} : ∀ τ H Q, liftE W (dChain r r' ta tb tc) τ H Q → tChain (liftR r) (liftR r') (liftE W ta) (liftE W tb) (liftE W tc) τ H Q := fun τ H Q ⟨P, σ, G, ex, Qd, a, x, t, k⟩ =>
  ⟨P, σ, G, ex, _, a, x, t, fun dx G1 h1 vx H1 rx a1 s1 =>
    ⟨P, σ, G1, ex, _, a.to a1 s1, x.to s1, h1, fun dy G2 h2 vy H2 ry a2 s2 =>
      ⟨P, dx, dy, G2, _, a2, rx.stp s2.s, ry, h2, fun z G3 h3 vz H3 rz a3 s3 => by
        cases z with
        | bl b =>
          cases rz
          refine ⟨b, rfl, ?_⟩
          cases b with
          | true =>
            have s12 := s1.trans s2
            exact ⟨P, σ, G3, ex, _, a.to a3 (s12.trans s3), x.to (s12.trans s3), h3, fun dw G4 h4 vw H4 rw4 a4 s4 => ⟨P, dy, dw, G4, Qd, a4, (ry.stp s3.s).stp s4.s, rw4, h4, KOk.to k ((s12.trans s3).trans s4)⟩⟩
          | false => exact k _ _ h3 _ _ (.bl false) a3 ((s1.trans s2).trans s3)
        | _ => exact h3.elim⟩⟩⟩
theorem me_chain {op op' : CmpOp} {r r' : R2d} {a b c : Expr} {ta tb tc : DE} {pos : Pos} (ho : OpD X (compareOp op) r) (ho' : OpD X (compareOp op') r') (ha : ME X W a ta) (hb : ME X W b tb) (hc : ME X W c tc) (hm : lastMarks [op, op'] [b, c] = false) : ME X W (.Compare a [op, op'] [b, c] pos) (dChain r r' ta tb tc) :=
  ⟨PE.imp (pe_chain ho ho' ha.pe hb.pe hc.pe hm) chain_lift⟩
theorem mt_chain {op op' : CmpOp} {r r' : R2d} {a b c : Expr} {ta tb tc : DE} {pos : Pos} (ho : OpD X (compareOp op) r) (ho' : OpD X (compareOp op') r') (ha : ME X W a ta) (hb : ME X W b tb) (hc : ME X W c tc) (hm : lastMarks [op, op'] [b, c] = false) : MT X W (.Compare a [op, op'] [b, c] pos) (dTest (dChain r r' ta tb tc)) :=
  ⟨PT.imp (pt_chain ho ho' ha.pe hb.pe hc.pe hm) fun τ H Q q => chain_lift τ H _ (test_lift τ H Q q)⟩
/-! ### and, or, not, if .. else -/
def dAnd (t u : DT) : DT := fun σ G ex Q => t σ G ex fun b G1 => match b with
  | true => u σ G1 ex Q
  | false => Q false G1
def dOr (t u : DT) : DT := fun σ G ex Q => t σ G ex fun b G1 => match b with
  | true => Q true G1
  | false => u σ G1 ex Q
def dNot (t : DT) : DT := fun σ G ex Q => t σ G ex fun b G1 => Q (!b) G1
structure MW (X : Cx) (W : WX) (e : Expr) (t : DT) : Prop where
  pw : PW X e (liftT W t)
theorem PW.imp {e : Expr} {t t' : TT} (h : PW X e t) (i : ∀ σ H Q, t' σ H Q → t σ H Q) : PW X e t' := ⟨fun wh pins s σ H Q I q => h.run wh pins s σ H Q I (i σ H Q q)⟩
theorem MW.mt {e : Expr} {t : DT} (h : MW X W e t) : MT X W e t := ⟨h.pw.pt⟩
variable {a b : Expr} {rest : List Expr} {t u : DT} {ta tb : DE} {pos : Pos}
theorem mw_and1 (ha : MT X W a t) : MW X W (.BoolOp .And [a] pos) t := ⟨pw_and1 ha.pt⟩
theorem mw_or1 (ha : MT X W a t) : MW X W (.BoolOp .Or [a] pos) t := ⟨pw_or1 ha.pt⟩
theorem mw_and (ha : MT X W a t) (hb : MW X W (.BoolOp .And (b :: rest) pos) u) : MW X W (.BoolOp .And (a :: b :: rest) pos) (dAnd t u) :=
  ⟨PW.imp (pw_and ha.pt hb.pw) fun τ H Q ⟨P, σ, G, ex, Qd, a, x, t, k⟩ => ⟨P, σ, G, ex, _, a, x, t, fun c G1 h1 H1 a1 s1 => by
    cases c with
    | true => rw [if_pos rfl]; exact ⟨P, σ, G1, ex, Qd, a.to a1 s1, x.to s1, h1, fun c2 G2 h2 H2 a2 s2 => k _ _ h2 _ a2 (s1.trans s2)⟩
    | false => rw [if_neg Bool.false_ne_true]; exact k _ _ h1 _ a1 s1⟩⟩
theorem mw_or (ha : MT X W a t) (hb : MW X W (.BoolOp .Or (b :: rest) pos) u) : MW X W (.BoolOp .Or (a :: b :: rest) pos) (dOr t u) :=
  ⟨PW.imp (pw_or ha.pt hb.pw) fun τ H Q ⟨P, σ, G, ex, Qd, a, x, t, k⟩ => ⟨P, σ, G, ex, _, a, x, t, fun c G1 h1 H1 a1 s1 => by
    cases c with
    | true => rw [if_pos rfl]; exact k _ _ h1 _ a1 s1
    | false => rw [if_neg Bool.false_ne_true]; exact ⟨P, σ, G1, ex, Qd, a.to a1 s1, x.to s1, h1, fun c2 G2 h2 H2 a2 s2 => k _ _ h2 _ a2 (s1.trans s2)⟩⟩⟩
theorem mt_not (ha : MT X W a t) : MT X W (.UnaryOp .Not a pos) (dNot t) :=
  ⟨PT.imp (pt_not ha.pt) fun τ H Q ⟨P, σ, G, ex, Qd, a, x, t, k⟩ => ⟨P, σ, G, ex, _, a, x, t, fun c G1 h1 H1 a1 s1 => k _ _ h1 _ a1 s1⟩⟩
/-- as values -/
def dAndV (ta tb : DE) : DE := fun σ G ex Q => ta σ G ex fun x G1 => match x with
  | .bl true => tb σ G1 ex Q
  | .bl false => Q (.bl false) G1
  | _ => False
def dOrV (ta tb : DE) : DE := fun σ G ex Q => ta σ G ex fun x G1 => match x with
  | .bl true => Q (.bl true) G1
  | .bl false => tb σ G1 ex Q
  | _ => False
def dNotV (ta : DE) : DE := fun σ G ex Q => ta σ G ex fun x G1 => match x with
  | .bl b => Q (.bl (!b)) G1
  | _ => False
theorem me_one {op} (h : ME X W a ta) : ME X W (.BoolOp op [a] pos) ta := ⟨pe_one h.pe⟩
theorem me_and (ha : ME X W a ta) (hb : ME X W (.BoolOp .And (b :: rest) pos) tb) : ME X W (.BoolOp .And (a :: b :: rest) pos) (dAndV ta tb) :=
  ⟨PE.imp (pe_and ha.pe hb.pe) fun τ H Q ⟨P, σ, G, ex, Qd, a, x, t, k⟩ => ⟨P, σ, G, ex, _, a, x, t, fun d G1 h1 v H1 r a1 s1 => by
    cases d with
    | bl c =>
      cases r
      refine ⟨c, rfl, ?_⟩
      cases c with
      | true => rw [if_pos rfl]; exact ⟨P, σ, G1, ex, Qd, a.to a1 s1, x.to s1, h1, KOk.to k s1⟩
      | false => rw [if_neg Bool.false_ne_true]; exact k _ _ h1 _ _ (.bl false) a1 s1
    | _ => exact h1.elim⟩⟩
theorem me_or (ha : ME X W a ta) (hb : ME X W (.BoolOp .Or (b :: rest) pos) tb) : ME X W (.BoolOp .Or (a :: b :: rest) pos) (dOrV ta tb) :=
  ⟨PE.imp (pe_or ha.pe hb.pe) fun τ H Q ⟨P, σ, G, ex, Qd, a, x, t, k⟩ => ⟨P, σ, G, ex, _, a, x, t, fun d G1 h1 v H1 r a1 s1 => by
    cases d with
    | bl c =>
      cases r
      refine ⟨c, rfl, ?_⟩
      cases c with
      | true => rw [if_pos rfl]; exact k _ _ h1 _ _ (.bl true) a1 s1
      | false => rw [if_neg Bool.false_ne_true]; exact ⟨P, σ, G1, ex, Qd, a.to a1 s1, x.to s1, h1, KOk.to k s1⟩
    | _ => exact h1.elim⟩⟩
theorem me_not (ha : ME X W a ta) : ME X W (.UnaryOp .Not a pos) (dNotV ta) :=
  ⟨PE.imp (pe_not ha.pe) fun τ H Q ⟨P, σ, G, ex, Qd, a, x, t, k⟩ => ⟨P, σ, G, ex, _, a, x, t, fun d G1 h1 v H1 r a1 s1 => by
    cases d with
    | bl c =>
      cases r
      exact ⟨c, rfl, k _ _ h1 _ _ (.bl _) a1 s1⟩
    | _ => exact h1.elim⟩⟩
def dIf (c : DT) (ta tb : DE) : DE := fun σ G ex Q => c σ G ex fun b G1 => match b with
  | true => ta σ G1 ex Q
  | false => tb σ G1 ex Q
theorem me_if {c : Expr} (hc : MT X W c t) (ha : ME X W a ta) (hb : ME X W b tb) : ME X W (.IfExp c a b pos) (dIf t ta tb) :=
  ⟨PE.imp (pe_ifExp hc.pt ha.pe hb.pe) fun τ H Q ⟨P, σ, G, ex, Qd, a, x, t, k⟩ => ⟨P, σ, G, ex, _, a, x, t, fun c G1 h1 H1 a1 s1 => by
    cases c with
    | true => rw [if_pos rfl]; exact ⟨P, σ, G1, ex, Qd, a.to a1 s1, x.to s1, h1, KOk.to k s1⟩
    | false => rw [if_neg Bool.false_ne_true]; exact ⟨P, σ, G1, ex, Qd, a.to a1 s1, x.to s1, h1, KOk.to k s1⟩⟩⟩
/-! ### lists of expressions, displays -/
def dNil : DA := fun _ G _ Q => Q [] G
def dCons (ta : DE) (tr : DA) : DA := fun σ G ex Q => ta σ G ex fun x G1 => tr σ G1 ex fun xs G2 => Q (x :: xs) G2
variable {e : Expr} {es : List Expr} {te : DE} {tr : DA}
theorem ma_nil : MA X W [] dNil := ⟨PA.imp pa_nil fun τ H Q ⟨P, σ, G, ex, Qd, a, x, t, k⟩ => k _ _ t _ _ .nil a.wd Sp'.refl⟩
theorem ma_cons (ha : ME X W e te) (hr : MA X W es tr) (hs : starEach (e :: es) X.env = (false, eval e X.env) :: starEach es X.env) : MA X W (e :: es) (dCons te tr) :=
  ⟨PA.imp (pa_cons ha.pe hr.pa hs) fun τ H Q ⟨P, σ, G, ex, Qd, a, x, t, k⟩ => ⟨P, σ, G, ex, _, a, x, t, fun d G1 h1 v H1 r a1 s1 =>
    ⟨P, σ, G1, ex, _, a.to a1 s1, x.to s1, h1, fun ds G2 h2 vs H2 rs a2 s2 => k _ _ h2 _ _ (.cons (r.stp s2.s) rs) a2 (s1.trans s2)⟩⟩⟩
def lim : Nat := 10000000
theorem lim_le {n : Nat} (h : n ≤ 10000000) : n ≤ sizeLine := Nat.le_trans h (by decide)
theorem lim_lt {n : Nat} (h : n < 10000000) : n < sizeLine := Nat.lt_of_lt_of_le h (by decide)
def dTup (t : DA) : DE := fun σ G ex Q => t σ G ex fun xs G1 => xs.length ≤ 10000000 ∧ Q (.tup xs) G1
/-- a list that nobody will change -/
def dLst (t : DA) : DE := fun σ G ex Q => t σ G ex fun xs G1 => xs.length ≤ 10000000 ∧ Q (.lst xs) G1
/-- a list of one's own -/
def dLstM (t : DA) : DE := fun σ G ex Q => t σ G ex fun xs G1 => xs.length ≤ 10000000 ∧ ∀ p, G1 p = none → Q (.ref p) (G1.set p (.lst xs))
theorem me_tup {k1} (h : MA X W es tr) : ME X W (.Tuple es k1 pos) (dTup tr) :=
  ⟨PE.imp (pe_tup h.pa) fun τ H Q ⟨P, σ, G, ex, Qd, a, x, t, k⟩ => ⟨P, σ, G, ex, _, a, x, t, fun ds G1 ⟨hl, h1⟩ vs H1 rs a1 s1 =>
    ⟨by rw [← rs.len]; exact lim_le hl, fun p hp => k _ _ h1 _ _ (.tup upd_same (a1.ofree hp) (rs.stp (Stp.new hp))) (a1.new hp) (s1.trans (Sp'.new a1 hp))⟩⟩⟩
theorem me_lst (h : MA X W es tr) : ME X W (.List es pos) (dLst tr) :=
  ⟨PE.imp (pe_lst h.pa) fun τ H Q ⟨P, σ, G, ex, Qd, a, x, t, k⟩ => ⟨P, σ, G, ex, _, a, x, t, fun ds G1 ⟨hl, h1⟩ vs H1 rs a1 s1 =>
    ⟨by rw [← rs.len]; exact lim_le hl, fun p hp => k _ _ h1 _ _ (.lst upd_same (a1.ofree hp) (rs.stp (Stp.new hp))) (a1.new hp) (s1.trans (Sp'.new a1 hp))⟩⟩⟩
theorem me_lstM (h : MA X W es tr) : ME X W (.List es pos) (dLstM tr) :=
  ⟨PE.imp (pe_lst h.pa) fun τ H Q ⟨P, σ, G, ex, Qd, a, x, t, k⟩ => ⟨P, σ, G, ex, _, a, x, t, fun ds G1 ⟨hl, h1⟩ vs H1 rs a1 s1 =>
    ⟨by rw [← rs.len]; exact lim_le hl, fun p hp => k _ _ (h1 p (a1.free hp)) _ _ (.ref p) (a1.newO hp ⟨vs, upd_same, rs.stp (Sp'.newO a1 hp).s⟩) (s1.trans (Sp'.newO a1 hp))⟩⟩⟩
end
end Y
/-! Y3: statements over trees: blocks, stores, loops; comprehensions. -/
namespace Y
open PySem PySem.Spec PyProof.Rows L2

section
variable {X : Cx} {W : WX} {st : Stmt} {rest : List Stmt} {t u : DS} {e : Expr} {te : DE} {pos : Pos}
/-! ### blocks -/
def dNext : DS := fun E σ G => E.nx σ G
def dSeq (t u : DS) : DS := fun E σ G => t { E with nx := u E } σ G
theorem mss_nil : MSs X W [] dNext := ⟨PSs.imp pss_nil fun F τ H ⟨P, σ, G, E, a, ek, h⟩ => ek.nx _ _ h _ _ a Sp'.refl⟩
theorem mss_cons (h1 : MS X W st t) (h2 : MSs X W rest u) : MSs X W (st :: rest) (dSeq t u) :=
  ⟨PSs.imp (pss_cons h1.ps h2.ps) fun F τ H ⟨P, σ, G, E, a, ek, h⟩ => ⟨P, σ, G, { E with nx := u E }, a,
    ⟨fun σ' G' q τ' H' a' s' => ⟨P, σ', G', E, a', ek.to s', q⟩, ek.rt, ek.bk, ek.ct, ek.ex⟩, h⟩⟩
theorem ms_pass : MS X W (.Pass pos) dNext := ⟨PS.imp ps_pass fun F τ H ⟨P, σ, G, E, a, ek, h⟩ => ek.nx _ _ h _ _ a Sp'.refl⟩
def dBreak : DS := fun E σ G => E.bk σ G
def dCont : DS := fun E σ G => E.ct σ G
theorem ms_break : MS X W (.Break pos) dBreak := ⟨PS.imp ps_break fun F τ H ⟨P, σ, G, E, a, ek, h⟩ => ek.bk _ _ h _ _ a Sp'.refl⟩
theorem ms_continue : MS X W (.Continue pos) dCont := ⟨PS.imp ps_continue fun F τ H ⟨P, σ, G, E, a, ek, h⟩ => ek.ct _ _ h _ _ a Sp'.refl⟩
def dDrop (te : DE) : DS := fun E σ G => te σ G E.ex fun _ G1 => E.nx σ G1
theorem ms_expr (he : ME X W e te) (hs : swapsWith e none pos.line X.env = pure false) : MS X W (.Expr e pos) (dDrop te) :=
  ⟨PS.imp (ps_expr he.pe hs) fun F τ H ⟨P, σ, G, E, a, ek, h⟩ => ⟨P, σ, G, E.ex, _, a, ek.xok, h, fun d G1 h1 v H1 r a1 s1 => ek.nx _ _ h1 _ _ (a.to a1 s1) s1⟩⟩
def dRet (te : DE) : DS := fun E σ G => te σ G E.ex E.rt
theorem ms_ret (he : ME X W e te) : MS X W (.Return (some e) pos) (dRet te) :=
  ⟨PS.imp (ps_ret he.pe) fun F τ H ⟨P, σ, G, E, a, ek, h⟩ => ⟨P, σ, G, E.ex, _, a, ek.xok, h, ek.rt⟩⟩
def dRetN : DS := fun E _ G => E.rt .non G
theorem ms_retN : MS X W (.Return none pos) dRetN := ⟨PS.imp ps_retN fun F τ H ⟨P, σ, G, E, a, ek, h⟩ => ek.rt _ _ h _ _ .non a.wd Sp'.refl⟩
def dIfS (c : DT) (t u : DS) : DS := fun E σ G => c σ G E.ex fun b G1 => match b with
  | true => t E σ G1
  | false => u E σ G1
theorem ms_if {c : Expr} {a b : List Stmt} {tc : DT} (hc : MT X W c tc) (ha : MSs X W a t) (hb : MSs X W b u) : MS X W (.If c a b pos) (dIfS tc t u) :=
  ⟨PS.imp (ps_if hc.pt ha.ps hb.ps) fun F τ H ⟨P, σ, G, E, a, ek, h⟩ => ⟨P, σ, G, E.ex, _, a, ek.xok, h, fun d G1 h1 H1 a1 s1 => by
    cases d with
    | true => rw [if_pos rfl]; exact ⟨P, σ, G1, E, a.to a1 s1, ek.to s1, h1⟩
    | false => rw [if_neg Bool.false_ne_true]; exact ⟨P, σ, G1, E, a.to a1 s1, ek.to s1, h1⟩⟩⟩
def dNever : DS := fun _ _ _ => False
theorem ms_never : MS X W st dNever := ⟨PS.imp ps_never fun F τ H ⟨P, σ, G, E, a, ek, h⟩ => h⟩
theorem mss_never : MSs X W rest dNever := ⟨PSs.imp pss_never fun F τ H ⟨P, σ, G, E, a, ek, h⟩ => h⟩

/-! ### targets -/
abbrev DG := D → DSt → Gp → DX → (DSt → Gp → Prop) → Prop
def liftG (W : WX) (t : DG) : TG := fun v τ H Q => ∃ P d σ G ex Qd, Rl P G H d v ∧ At P σ G τ H ∧ XOk W P G H τ ex ∧ t d σ G ex Qd ∧ ∀ σ' G', Qd σ' G' → ∀ τ' H', At P σ' G' τ' H' → Sp' P G H G' H' → Q τ' H'
structure MG (X : Cx) (W : WX) (tg : Expr) (t : DG) : Prop where
  pg : PG X tg (liftG W t)
theorem PG.imp {tg : Expr} {t t' : TG} (h : PG X tg t) (i : ∀ v σ H Q, t' v σ H Q → t v σ H Q) : PG X tg t' := ⟨fun pins s σ H v u Q I r q => h.run pins s σ H v u Q I r (i v σ H Q q)⟩
def gName' (i : Nat) : DG := fun d σ G _ Q => Q (σ.set i (some d)) G
theorem mg_name {i : Nat} {x : Str} (hN : X.N.Nodup) (hi : X.N[i]? = some x) (hx : Loc X.env.scope x) (hf : X.fn x = true ∨ X.env.scope.names.lookup x = some .local) : MG X W (.Name x pos) (gName' i) :=
  ⟨PG.imp (pg_name hN hi hx hf) fun v τ H Q ⟨P, d, σ, G, ex, Qd, r, a, x, h, k⟩ => k _ _ h _ _ (a.set r i) Sp'.refl⟩
/-- (a, b, ..) = a tuple: all names -/
def gNames : List Nat → List D → DSt → DSt
  | i :: is, d :: ds, σ => gNames is ds (σ.set i (some d))
  | _, _, σ => σ
def gTup' (is : List Nat) : DG := fun d σ G _ Q => match d with
  | .tup ds => ds.length = is.length ∧ Q (gNames is ds σ) G
  | _ => False
inductive NamesAt (X : Cx) : List Expr → List Nat → Prop where
  | nil : NamesAt X [] []
  | cons {x : Str} {p : Pos} {es : List Expr} {i : Nat} {is : List Nat} : X.N[i]? = some x → Loc X.env.scope x → (X.fn x = true ∨ X.env.scope.names.lookup x = some .local) → NamesAt X es is → NamesAt X (.Name x p :: es) (i :: is)
def tNames : List Nat → TGs
  | [] => gNil
  | i :: is => gCons (gName i) (tNames is)
theorem names_ea {es : List Expr} {is : List Nat} (h : NamesAt X es is) : (assignEach es X.env).length = es.length ∧ (assignEach es X.env).findIdx? (·.1) = none := by
  induction h with
  | nil => exact ⟨rfl, rfl⟩
  | @cons x p es i is h1 h2 h3 h4 ih =>
    obtain ⟨i1, i2⟩ := ih
    have e : assignEach (.Name x p :: es) X.env = (false, assign (.Name x p) X.env) :: assignEach es X.env := by rfl
    refine ⟨by rw [e, List.length_cons, i1, List.length_cons], ?_⟩
    rw [e, List.findIdx?_cons, if_neg Bool.false_ne_true, i2]
    rfl
theorem names_len {es : List Expr} {is : List Nat} (h : NamesAt X es is) : es.length = is.length := by
  induction h with
  | nil => rfl
  | cons _ _ _ _ ih => rw [List.length_cons, List.length_cons, ih]
theorem pgs_names {es : List Expr} {is : List Nat} (hN : X.N.Nodup) (h : NamesAt X es is) : PGs X es (tNames is) := by
  induction h with
  | nil => exact pgs_nil
  | cons h1 h2 h3 h4 ih => exact pgs_cons (pg_name hN h1 h2 h3) ih (by rfl)
theorem names_run {P : Pv} {G : Gp} {H : Hp} : ∀ (is : List Nat) {ds : List D} {vs : List V} {σ : DSt} {τ : L2.St} {Q : L2.St → Hp → Prop}, Rls P G H ds vs → ds.length = is.length → At P σ G τ H →
    (∀ τ', At P (gNames is ds σ) G τ' H → Q τ' H) → tNames is vs τ H Q
  | [], [], _, σ, τ, Q, .nil, _, a, k => ⟨rfl, k τ a⟩
  | i :: is, d :: ds, _, σ, τ, Q, .cons r rs, hl, a, k => ⟨_, _, rfl, names_run is rs (by simpa using hl) (a.set r i) k⟩
theorem mg_tup {es : List Expr} {is : List Nat} {k : Nat} (c : CxY X) (h : NamesAt X es is) : MG X W (.Tuple es k pos) (gTup' is) :=
  ⟨PG.imp (pg_tup c.calm (pgs_names c.nd h) (names_ea h).1 (names_ea h).2) fun v τ H Q ⟨P, d, σ, G, ex, Qd, r, a, x, h', k⟩ => by
    cases d with
    | tup ds =>
      obtain ⟨hl, h'⟩ := h'
      cases r with
      | tup hH hG rs => exact ⟨_, _, rfl, .inl (.inl hH), by rw [← rs.len, hl, names_len h], names_run is rs hl a fun τ' a' => k _ _ h' _ _ a' Sp'.refl⟩
    | _ => exact h'.elim⟩
def dAsg (te : DE) (g : DG) : DS := fun E σ G => te σ G E.ex fun d G1 => g d σ G1 E.ex E.nx
theorem asg_lift {te : DE} {g : DG} : ∀ F τ H, liftS W (dAsg te g) F τ H → tAsg (liftE W te) (liftG W g) F τ H := fun F τ H ⟨P, σ, G, E, a, ek, h⟩ =>
  ⟨P, σ, G, E.ex, _, a, ek.xok, h, fun d G1 h1 v H1 r a1 s1 => ⟨P, d, σ, G1, E.ex, _, r, a.to a1 s1, (ek.to s1).xok, h1, fun σ2 G2 h2 τ2 H2 a2 s2 => ek.nx _ _ h2 _ _ a2 (s1.trans s2)⟩⟩
theorem ms_set {i : Nat} {x : Str} {pos' : Pos} (hN : X.N.Nodup) (hi : X.N[i]? = some x) (hx : Loc X.env.scope x) (he : ME X W e te) (hs : swapsWith e (some (.Name x pos')) pos.line X.env = pure false) (hf : X.fn x = true ∨ X.env.scope.names.lookup x = some .local) :
    MS X W (.Assign [.Name x pos'] e pos) (dAsg te (gName' i)) :=
  ⟨PS.imp (ps_set hN hi hx he.pe hs hf) fun F τ H ⟨P, σ, G, E, a, ek, h⟩ => ⟨P, σ, G, E.ex, _, a, ek.xok, h, fun d G1 h1 v H1 r a1 s1 => ek.nx _ _ h1 _ _ ((a.to a1 s1).set r i) s1⟩⟩
theorem ms_asg {tg : Expr} {g : DG} (he : ME X W e te) (hg : MG X W tg g) (hs : swapsWithSole [tg] e pos.line X.env = pure false) (hw : swappedStores [tg] e X.env = pure none)
    (h1 : (assignEach [tg] X.env).map (·.2) = [assign tg X.env]) : MS X W (.Assign [tg] e pos) (dAsg te g) :=
  ⟨PS.imp (ps_asg he.pe hg.pg hs hw h1) asg_lift⟩
/-- a, b = x, y, both written -/
def dPar (i j : Nat) (ta : DA) : DS := fun E σ G => ta σ G E.ex fun ds G1 => match ds with
  | [d, d'] => E.nx ((σ.set i (some d)).set j (some d')) G1
  | _ => False
theorem ms_par {i j : Nat} {x y : Str} {a b : Expr} {ta : DA} {px py pt : Pos} {kt k2 pt2} (c : CxY X) (hi : X.N[i]? = some x) (hj : X.N[j]? = some y) (hij : i ≠ j)
    (hx : X.env.scope.names.lookup x = some .local) (hy : X.env.scope.names.lookup y = some .local) (ha : MA X W [a, b] ta)
    (hw : swappedStores [.Tuple [.Name x px, .Name y py] kt pt] (.Tuple [a, b] k2 pt2) X.env = pure (some [x, y]))
    (hs : swapsWithSole [.Tuple [.Name x px, .Name y py] kt pt] (.Tuple [a, b] k2 pt2) pos.line X.env = pure false) :
    MS X W (.Assign [.Tuple [.Name x px, .Name y py] kt pt] (.Tuple [a, b] k2 pt2) pos) (dPar i j ta) :=
  ⟨PS.imp (ps_par c.calm c.nd hi hj hij hx hy ha.pa hw hs) fun F τ H ⟨P, σ, G, E, a, ek, h⟩ => ⟨P, σ, G, E.ex, _, a, ek.xok, h, fun ds G1 h1 vs H1 rs a1 s1 => by
    match ds, vs, rs, h1 with
    | [d, d'], [v, v'], .cons r (.cons r' .nil), h1 => exact ⟨v, v', rfl, ek.nx _ _ h1 _ _ (((a.to a1 s1).set r i).set r' j) s1⟩⟩⟩
/-- x op= e -/
def dAug (i : Nat) (te : DE) (r : R2d) : DS := fun E σ G => match slot σ i with
  | some d => te σ G E.ex fun y G1 => r d y G1 fun z G2 => E.nx (σ.set i (some z)) G2
  | none => False
def PIpD (X : Cx) (op : Operator) (r : R2d) : Prop := PIp X op (liftR r)
theorem ipd_of {op : Operator} {r : R2d} (h : OpD X (inplaceOp op) r) : PIpD X op r := fun pins s σ H x y v u Q I r1 r2 q => h pins s σ H x y v u Q I r1 r2 q
theorem ms_aug {i : Nat} {x : Str} {op : Operator} {r : R2d} {pos' : Pos} (hN : X.N.Nodup) (hi : X.N[i]? = some x) (hx : Loc X.env.scope x) (he : ME X W e te) (ho : PIpD X op r) (hf : X.fn x = true ∨ X.env.scope.names.lookup x = some .local) :
    MS X W (.AugAssign (.Name x pos') op e pos) (dAug i te r) :=
  ⟨PS.imp (ps_aug hN hi hx he.pe ho hf) fun F τ H ⟨P, σ, G, E, a, ek, h⟩ => by
    have h' : (match slot σ i with
      | some d => te σ G E.ex fun y G1 => r d y G1 fun z G2 => E.nx (σ.set i (some z)) G2
      | none => False) := h
    cases e1 : slot σ i with
    | none => rw [e1] at h'; exact h'.elim
    | some d =>
      rw [e1] at h'
      obtain ⟨v, hv, rv⟩ := a.sl i d (slot_get e1)
      exact ⟨v, hv, P, σ, G, E.ex, _, a, ek.xok, h', fun y G1 h1 w H1 ry a1 s1 => ⟨P, d, y, G1, _, a1, rv.stp s1.s, ry, h1, fun z G2 h2 vz H2 rz a2 s2 =>
        ek.nx _ _ h2 _ _ ((a.to a2 (s1.trans s2)).set rz i) (s1.trans s2)⟩⟩⟩

/-! ### what a loop walks: a list of trees -/
abbrev DI := DSt → Gp → DX → (List D → Gp → Prop) → Prop
/-- the base's iterator J walks these items, from (G, H) on, whatever happens -/
structure Walks (J : It) (xs : List D) (P : Pv) (G : Gp) (H : Hp) : Prop where
  go : ∀ P' i G' H' x, Wd P' G' H' → Stp (Ov P G) H (Ov P' G') H' → xs[i]? = some x → J.go i H' ∧ ∀ v H2, J.yld i H' v H2 → Rl P' G' H2 x v ∧ Wd P' G' H2 ∧ Sp' P' G' H' G' H2 ∧ ∀ b u, H' b = some u → H2 b = some u
  stop : ∀ P' i G' H', Wd P' G' H' → Stp (Ov P G) H (Ov P' G') H' → xs.length ≤ i → J.stop i H'
def liftI (W : WX) (t : DI) : TI := fun τ H R => ∃ P σ G ex Qd, At P σ G τ H ∧ XOk W P G H τ ex ∧ t σ G ex Qd ∧ ∀ xs G', Qd xs G' → ∀ J H', Wd P G' H' → Sp' P G H G' H' → Walks J xs P G' H' → R J H'
structure MI (X : Cx) (W : WX) (tg iter : Expr) (t : DI) : Prop where
  pi : PI X tg iter (liftI W t)
theorem PI.imp {tg iter : Expr} {t t' : TI} (h : PI X tg iter t) (i : ∀ σ H Q, t' σ H Q → t σ H Q) : PI X tg iter t' := ⟨fun pins s σ H Q I q => h.run pins s σ H Q I (i σ H Q q)⟩
theorem walks_list {K : PySem.W.Frag} {a : Addr} {ds : List D} {vs : List V} {P : Pv} {G : Gp} {H : Hp} (h : H a = some (.lst vs)) (g : Ov P G a = none) (r : Rls P G H ds vs) : Walks (Itl K a) ds P G H where
  go := fun P' i G' H' x a' s' e => by
    obtain ⟨v, hv, rv⟩ := (r.stp s').get e
    refine ⟨⟨vs, v, .inl (.inl (s' _ _ h g).1), hv⟩, fun v2 H2 ⟨e2, y⟩ => ?_⟩
    subst e2
    have e3 := y vs (.inl (.inl (s' _ _ h g).1))
    rw [hv] at e3
    cases e3
    exact ⟨rv, a', Sp'.refl, fun _ _ q => q⟩
  stop := fun P' i G' H' a' s' hl => ⟨vs, .inl (.inl (s' _ _ h g).1), by rw [← r.len]; exact hl⟩
theorem walks_tup {K : PySem.W.Frag} {a : Addr} {ds : List D} {vs : List V} {P : Pv} {G : Gp} {H : Hp} (h : H a = some (.tup vs)) (g : Ov P G a = none) (r : Rls P G H ds vs) : Walks (Itt K a) ds P G H where
  go := fun P' i G' H' x a' s' e => by
    obtain ⟨v, hv, rv⟩ := (r.stp s').get e
    refine ⟨⟨vs, v, .inl (.inl (s' _ _ h g).1), hv⟩, fun v2 H2 ⟨e2, y⟩ => ?_⟩
    subst e2
    have e3 := y vs (.inl (.inl (s' _ _ h g).1))
    rw [hv] at e3
    cases e3
    exact ⟨rv, a', Sp'.refl, fun _ _ q => q⟩
  stop := fun P' i G' H' a' s' hl => ⟨vs, .inl (.inl (s' _ _ h g).1), by rw [← r.len]; exact hl⟩
def numsFrom (lo : Int) (n : Nat) : List D := (List.range n).map fun (i : Nat) => D.int (lo + (i : Int))
theorem walks_range {lo : Int} {n : Nat} {P : Pv} {G : Gp} {H : Hp} : Walks (Itr lo n) (numsFrom lo n) P G H where
  go := fun P' i G' H' x a' s' e => by
    unfold numsFrom at e
    rw [List.getElem?_map] at e
    by_cases hi : i < n
    · rw [List.getElem?_range hi] at e
      cases e
      exact ⟨hi, fun v H2 ⟨e2, y⟩ => by subst e2; subst y; exact ⟨.int _, a', Sp'.refl, fun _ _ q => q⟩⟩
    · rw [List.getElem?_eq_none (by rw [List.length_range]; omega)] at e
      cases e
  stop := fun P' i G' H' a' s' hl => by
    unfold numsFrom at hl
    rw [List.length_map, List.length_range] at hl
    exact hl
/-! ### for -/
def dForL (g : DG) (tb : DS) (E : DEnds) : List D → DSt → Gp → Prop
  | [], σ, G => E.nx σ G
  | x :: r, σ, G => g x σ G E.ex fun σ1 G1 => tb { E with nx := fun σ2 G2 => ∃ G3, Le G3 G2 ∧ dForL g tb E r σ2 G3, ct := fun σ2 G2 => ∃ G3, Le G3 G2 ∧ dForL g tb E r σ2 G3, bk := E.nx } σ1 G1
def dFor (wi : DI) (g : DG) (tb : DS) : DS := fun E σ G => wi σ G E.ex fun xs G1 => dForL g tb E xs σ G1
theorem drop_cons {α : Type} {xs : List α} {i : Nat} {x : α} {r : List α} (h : xs.drop i = x :: r) : xs[i]? = some x ∧ xs.drop (i + 1) = r := by
  have h1 : (xs.drop i)[0]? = some x := by rw [h]; rfl
  rw [List.getElem?_drop] at h1
  refine ⟨by simpa using h1, ?_⟩
  have h2 : (xs.drop i).drop 1 = r := by rw [h]; rfl
  rwa [List.drop_drop] at h2
theorem ms_for {tg iter : Expr} {body : List Stmt} {wi : DI} {g : DG} {tb : DS} (hp : PassesOwn (model X.prog X.w) X.A X.env X.xe) (c : CxY X) (hi : MI X W tg iter wi) (hg : MG X W tg g) (hb : MSs X W body tb)
    (hs : ∀ x, foldedSetIterable iter X.env x = pure x) : MS X W (.For tg iter body [] pos) (dFor wi g tb) :=
  ⟨PS.imp (ps_for hp c.calm hi.pi hg.pg hb.ps hs) fun F τ H ⟨P, σ, G, E, a, ek, h⟩ => ⟨P, σ, G, E.ex, _, a, ek.xok, h, fun xs G1 h1 J H1 a1 s1 wk =>
    ⟨fun i m τ' H' => m = xs.length - i ∧ i ≤ xs.length ∧ ∃ σ' G', At P σ' G' τ' H' ∧ Sp' P G1 H1 G' H' ∧ dForL g tb E (xs.drop i) σ' G', ⟨xs.length, rfl, Nat.zero_le _, σ, G1, a.to a1 s1, Sp'.refl, h1⟩, by
      rintro i m τ' H' ⟨rfl, hle, σ', G', a', s', q⟩
      cases e : xs.drop i with
      | nil =>
        rw [e] at q
        have hi2 : xs.length ≤ i := by
          have e2 := congrArg List.length e
          rw [List.length_drop, List.length_nil] at e2
          omega
        exact .inl ⟨wk.stop P i G' H' a'.wd s'.s hi2, ek.nx _ _ q _ _ a' (s1.trans s')⟩
      | cons x r =>
        rw [e] at q
        obtain ⟨e1, e2⟩ := drop_cons e
        obtain ⟨go, yl⟩ := wk.go P i G' H' x a'.wd s'.s e1
        have hlt : i < xs.length := (List.getElem?_eq_some_iff.mp e1).1
        refine .inr ⟨go, fun τ2 H2 => ∃ σ2 G2, At P σ2 G2 τ2 H2 ∧ Sp' P G1 H1 G2 H2 ∧ dForL g tb E r σ2 G2, fun τ2 H2 ⟨σ2, G2, q1, q2, q3⟩ => ⟨xs.length - (i + 1), by omega, rfl, hlt, σ2, G2, q1, q2, by rw [e2]; exact q3⟩, fun v H2 y => ?_⟩
        obtain ⟨rx, a2, s2, _⟩ := yl v H2 y
        have ek2 := ek.to (s1.trans (s'.trans s2))
        refine ⟨P, x, σ', G', E.ex, _, rx, a'.to a2 s2, ek2.xok, q, fun σ3 G3 q3 τ3 H3 a3 s3 => ⟨P, σ3, G3, _, a3, ?_, q3⟩⟩
        have ek3 := ek2.to s3
        have s03 := (s'.trans s2).trans s3
        exact ⟨fun σ4 G4 ⟨G5, le, q5⟩ τ4 H4 a4 s4 => ⟨σ4, G5, a4.le le, (s03.trans s4).trans (Sp'.le le), q5⟩, ek3.rt, ek3.nx, fun σ4 G4 ⟨G5, le, q5⟩ τ4 H4 a4 s4 => ⟨σ4, G5, a4.le le, (s03.trans s4).trans (Sp'.le le), q5⟩, ek3.ex⟩⟩⟩⟩
/-! ### while -/
def dWhile (c : DT) (tb : DS) : DS := fun E σ G => ∃ I : Nat → DSt → Gp → Prop, (∃ m, I m σ G) ∧ ∀ m σ G, I m σ G → c σ G E.ex fun b G1 => match b with
  | true => tb { E with nx := fun σ' G' => ∃ G'', Le G'' G' ∧ ∃ m', m' < m ∧ I m' σ' G'', ct := fun σ' G' => ∃ G'', Le G'' G' ∧ ∃ m', m' < m ∧ I m' σ' G'', bk := E.nx } σ G1
  | false => E.nx σ G1
theorem ms_while {c : Expr} {body : List Stmt} {tc : DT} {tb : DS} (hp : PassesOwn (model X.prog X.w) X.A X.env X.xe) (hc : MT X W c tc) (hb : MSs X W body tb) : MS X W (.While c body [] pos) (dWhile tc tb) :=
  ⟨PS.imp (ps_while hp hc.pt hb.ps) fun F τ H ⟨P, σ, G, E, a, ek, h⟩ => by
    obtain ⟨I, ⟨m0, i0⟩, turn⟩ := h
    refine ⟨fun m τ' H' => ∃ σ' G', At P σ' G' τ' H' ∧ Sp' P G H G' H' ∧ I m σ' G', ⟨m0, σ, G, a, Sp'.refl, i0⟩, ?_⟩
    rintro m τ' H' ⟨σ', G', a', s', i'⟩
    have ek' := ek.to s'
    refine ⟨P, σ', G', E.ex, _, a', ek'.xok, turn m σ' G' i', fun b G1 h1 H1 a1 s1 => ?_⟩
    cases b with
    | false => rw [if_neg Bool.false_ne_true]; exact ek'.nx _ _ h1 _ _ (a'.to a1 s1) s1
    | true =>
      rw [if_pos rfl]
      refine ⟨fun τ2 H2 => ∃ m', m' < m ∧ ∃ σ2 G2, At P σ2 G2 τ2 H2 ∧ Sp' P G H G2 H2 ∧ I m' σ2 G2, fun τ2 H2 q => q, P, σ', G1, _, a'.to a1 s1, ?_, h1⟩
      have ek1 := ek'.to s1
      exact ⟨fun σ4 G4 ⟨G5, le, m', hm, q5⟩ τ4 H4 a4 s4 => ⟨m', hm, σ4, G5, a4.le le, ((s'.trans s1).trans s4).trans (Sp'.le le), q5⟩, ek1.rt, ek1.nx, fun σ4 G4 ⟨G5, le, m', hm, q5⟩ τ4 H4 a4 s4 => ⟨m', hm, σ4, G5, a4.le le, ((s'.trans s1).trans s4).trans (Sp'.le le), q5⟩, ek1.ex⟩⟩
end
end Y
/-! Y4: what loops walk; comprehensions; dicts by keys. -/
namespace Y
open PySem PySem.Spec PyProof.Rows L2

/-! ### dicts by keys -/
theorem St_inj {a b : List Nat} (h : St a = St b) : a = b := by
  have e : a.toArray = b.toArray := congrArg Str.cps h
  simpa using e
theorem kS_inj {a b : DKey} (h : kS a = kS b) : a = b := by
  cases a with
  | inl i => cases b with
    | inl j => cases h; rfl
    | inr l => cases h
  | inr l => cases b with
    | inl j => cases h
    | inr m =>
      have e : St l = St m := Sum.inr.inj h
      rw [St_inj e]
theorem kS_iff {a b : DKey} : kS a = kS b ↔ a = b := ⟨kS_inj, fun h => by rw [h]⟩
def dlook (kvs : List (DKey × D)) (k : DKey) : Option D := (kvs.find? fun p => decide (p.1 = k)).map (·.2)
def dhas (kvs : List (DKey × D)) (k : DKey) : Bool := kvs.any fun p => decide (p.1 = k)
def dput (kvs : List (DKey × D)) (k : DKey) (d : D) : List (DKey × D) := if dhas kvs k = true then kvs.map (fun p => if p.1 = k then (p.1, d) else p) else kvs ++ [(k, d)]
section
variable {G : Gp} {H : Hp}
abbrev PRel (G : Gp) (H : Hp) (p : DKey × D) (q : Key × V) : Prop := kS p.1 = q.1 ∧ Rel G H p.2 q.2
theorem dlook_rel {k : DKey} : ∀ {kvs : List (DKey × D)} {ws : List (Key × V)}, Paired (PRel G H) kvs ws →
    (∀ d, dlook kvs k = some d → ∃ v, valV ws (kS k) = some v ∧ Rel G H d v) ∧ (dlook kvs k = none → valV ws (kS k) = none)
  | _, _, .nil => ⟨fun d h => (by cases h), fun _ => rfl⟩
  | p :: kvs, q :: ws, .cons a b => by
    obtain ⟨i1, i2⟩ := dlook_rel (k := k) b
    by_cases e : p.1 = k
    · have e1 : dlook (p :: kvs) k = some p.2 := by unfold dlook; rw [List.find?_cons_of_pos (by simpa using e)]; rfl
      have e2 : valV (q :: ws) (kS k) = some q.2 := valV_pos (by rw [← a.1, e])
      rw [e1, e2]
      exact ⟨fun d h => ⟨q.2, rfl, by cases h; exact a.2⟩, fun h => (by cases h)⟩
    · have e1 : dlook (p :: kvs) k = dlook kvs k := by unfold dlook; rw [List.find?_cons_of_neg (by simpa using e)]
      have e2 : valV (q :: ws) (kS k) = valV ws (kS k) := valV_neg (by rw [← a.1]; exact fun z => e (kS_inj z))
      rw [e1, e2]
      exact ⟨i1, i2⟩
theorem dlook_some {k : DKey} {kvs : List (DKey × D)} {ws : List (Key × V)} (h : Paired (PRel G H) kvs ws) : (valV ws (kS k)).isSome = (dlook kvs k).isSome := by
  obtain ⟨a, b⟩ := dlook_rel (k := k) h
  cases e : dlook kvs k with
  | none => rw [b e]; rfl
  | some d => obtain ⟨v, hv, _⟩ := a d e; rw [hv]; rfl
theorem dhas_look {k : DKey} : ∀ {kvs : List (DKey × D)}, dhas kvs k = (dlook kvs k).isSome
  | [] => rfl
  | p :: kvs => by
    have ih := dhas_look (k := k) (kvs := kvs)
    by_cases e : p.1 = k
    · unfold dhas dlook
      rw [List.find?_cons_of_pos (by simpa using e), List.any_cons, decide_eq_true e]
      rfl
    · unfold dhas dlook at ih ⊢
      rw [List.find?_cons_of_neg (by simpa using e), List.any_cons, decide_eq_false e, Bool.false_or]
      exact ih
theorem dput_rel {k : DKey} {d : D} {v : V} {kvs : List (DKey × D)} {ws : List (Key × V)} (h : Paired (PRel G H) kvs ws) (r : Rel G H d v) : Paired (PRel G H) (dput kvs k d) (putK ws (kS k) v) := by
  have e : dhas kvs k = (ws.any fun kv => decide (kv.1 = kS k)) := by
    rw [dhas_look, valV_any, dlook_some h]
  unfold dput putK
  rw [e]
  by_cases c : (ws.any fun kv => decide (kv.1 = kS k)) = true
  · rw [if_pos c, if_pos c]
    clear e c
    induction h with
    | nil => exact .nil
    | @cons p q l m a b ih =>
      refine .cons ?_ ih
      show PRel G H (if p.1 = k then (p.1, d) else p) (if q.1 = kS k then (q.1, v) else q)
      by_cases e : p.1 = k
      · rw [if_pos e, if_pos (by rw [← a.1, e])]
        exact ⟨a.1, r⟩
      · rw [if_neg e, if_neg (by rw [← a.1]; exact fun z => e (kS_inj z))]
        exact a
  · rw [if_neg c, if_neg c]
    exact Paired.snoc h ⟨rfl, r⟩
theorem dput_len (kvs : List (DKey × D)) (k : DKey) (d : D) : (dput kvs k d).length ≤ kvs.length + 1 := by
  unfold dput
  by_cases c : dhas kvs k = true
  · rw [if_pos c, List.length_map]; omega
  · rw [if_neg c, List.length_append, List.length_singleton]
    omega
end
/-- what may be a key -/
def keyOf : D → Option DKey
  | .int i => some (.inl i)
  | .str l => some (.inr l)
  | _ => none
theorem keyOf_rel {G : Gp} {H : Hp} {d : D} {v : V} {k : DKey} (h : keyOf d = some k) (r : Rel G H d v) : v = kV (kS k) := by
  cases d with
  | int i => cases h; cases r; rfl
  | str l => cases h; cases r; rfl
  | _ => cases h

section
variable {X : Cx} {W : WX} {tg e : Expr} {te : DE}
/-! ### what a loop walks -/
/-- a tree that is a row of things -/
def rowOf : D → Option (List D)
  | .lst ds => some ds
  | .tup ds => some ds
  | .str l => some (l.map fun c => D.str [c])
  | .scr ns => some (ns.map D.int)
  | _ => none
def dRow (te : DE) : DI := fun σ G ex R => te σ G ex fun d G1 => match rowOf d with
  | some xs => R xs G1
  | none => False
def iAny (K : PySem.W.Frag) (tl : TE) : TI := fun σ H R => tl σ H fun x H1 => (∃ a, x = .ref a ∧ (∃ xs, SqL K H1 a xs) ∧ R (Itl K a) H1) ∨ (∃ a, x = .ref a ∧ (∃ xs, SqT K H1 a xs) ∧ R (Itt K a) H1) ∨ ∃ z, x = .str z ∧ R (Its z) H1
theorem pi_any {l : Expr} {tl : TE} (hl : PE X l tl) : PI X tg l (iAny X.K tl) := by
  refine ⟨fun pins s σ H R I h => thn (hl.run pins s σ H _ I h) fun v s1 ⟨x, H1, I1, r1, q1⟩ => ?_⟩
  rcases q1 with ⟨a, rfl, ⟨xs, hq⟩, q⟩ | ⟨a, rfl, ⟨xs, hq⟩, q⟩ | ⟨z, rfl, q⟩
  · cases r1
    obtain ⟨its, rv, p, _⟩ := I1.list hq
    exact wpAny_pyIter_list p.isList (pi_one (tk := s1.toks) I1 _ (turn_list a _) ⟨_, Heap.get?_push_size _ rfl, rfl, rfl⟩ q)
  · cases r1
    obtain ⟨its, rv, p, _⟩ := I1.tuple hq
    exact wpAny_pyIter_tuple (show s1.heap.IsTuple a its.toArray from p) (pi_one (tk := s1.toks) I1 _ (turn_tuple a _) ⟨_, Heap.get?_push_size _ rfl, rfl, rfl⟩ q)
  · obtain ⟨t, rfl⟩ := r1
    cases ha : z.cps.all (· < 128)
    · exact wpAny_pyIter_wide ha (pi_one (tk := s1.toks) I1 _ (turn_str _ z t "str_iterator" (.inr rfl)) ⟨_, Heap.get?_push_size _ rfl, rfl, rfl⟩ q)
    · exact wpAny_pyIter_ascii ha (pi_one (tk := s1.toks) I1 _ (turn_str _ z t "str_ascii_iterator" (.inl rfl)) ⟨_, Heap.get?_push_size _ rfl, rfl, rfl⟩ q)
theorem walks_scr {K : PySem.W.Frag} {a : Addr} {ns : List Int} {P : Pv} {G : Gp} {H : Hp} (h : Rd H a (.lst (ns.map V.int))) (g : Ov P G a = none) : Walks (Itl K a) (ns.map D.int) P G H := by
  have st : ∀ P' G' H', Stp (Ov P G) H (Ov P' G') H' → Rd H' a (.lst (ns.map V.int)) := fun P' G' H' s' => by
    rcases h with h | ⟨o, h⟩
    · exact .inl (s' _ _ h g).1
    · exact .inr ⟨o, (s' _ _ h g).1⟩
  refine ⟨fun P' i G' H' x a' s' e => ?_, fun P' i G' H' a' s' hl => ⟨_, .inl (st _ _ _ s'), by simpa using hl⟩⟩
  obtain ⟨v, hv, rv⟩ := (Rels.of_ints (G := Ov P' G') (H := H') ns).get e
  refine ⟨⟨_, v, .inl (st _ _ _ s'), hv⟩, fun v2 H2 ⟨e2, y⟩ => ?_⟩
  subst e2
  have e3 := y _ (.inl (st _ _ _ s'))
  rw [hv] at e3
  cases e3
  exact ⟨rv, a', Sp'.refl, fun _ _ q => q⟩
theorem walks_str {l : List Nat} {P : Pv} {G : Gp} {H : Hp} : Walks (Its (St l)) (l.map fun c => D.str [c]) P G H where
  go := fun P' i G' H' x a' s' e => by
    rw [List.getElem?_map] at e
    cases q : l[i]? with
    | none => rw [q] at e; cases e
    | some c =>
      rw [q] at e
      cases e
      have hi := (List.getElem?_eq_some_iff.mp q).1
      refine ⟨by show i < l.toArray.size; simpa using hi, fun v H2 ⟨e2, c', hc, ev⟩ => ?_⟩
      have hc' : l[i]? = some c' := by simpa using hc
      rw [q] at hc'
      cases hc'
      subst e2
      subst ev
      exact ⟨.str [c], a', Sp'.refl, fun _ _ z => z⟩
  stop := fun P' i G' H' a' s' hl => by
    show l.toArray.size ≤ i
    simpa using hl
theorem mi_row (he : ME X W e te) : MI X W tg e (dRow te) :=
  ⟨PI.imp (pi_any he.pe) fun τ H R ⟨P, σ, G, ex, Qd, a, x, h, k⟩ => ⟨P, σ, G, ex, _, a, x, h, fun d G1 h1 v H1 r a1 s1 => by
    cases d with
    | lst ds => cases r with
      | lst hH hG rs => exact .inl ⟨_, rfl, ⟨_, .inl (.inl hH)⟩, k _ _ h1 _ _ a1 s1 (walks_list hH hG rs)⟩
    | tup ds => cases r with
      | tup hH hG rs => exact .inr (.inl ⟨_, rfl, ⟨_, .inl (.inl hH)⟩, k _ _ h1 _ _ a1 s1 (walks_tup hH hG rs)⟩)
    | str l => cases r; exact .inr (.inr ⟨_, rfl, k _ _ h1 _ _ a1 s1 walks_str⟩)
    | scr ns => cases r with
      | scr hH hG => exact .inl ⟨_, rfl, ⟨_, .inl hH⟩, k _ _ h1 _ _ a1 s1 (walks_scr hH hG)⟩
    | _ => exact h1.elim⟩⟩
/-- range(n), range(a, b) -/
def dRng1 (ta : DE) : DI := fun σ G ex R => ta σ G ex fun d G1 => match d with
  | .int n => (-(2 ^ 62) ≤ n ∧ n < 2 ^ 62) ∧ R (numsFrom 0 n.toNat) G1
  | _ => False
def dRng2 (ta tb : DE) : DI := fun σ G ex R => ta σ G ex fun d G1 => tb σ G1 ex fun d2 G2 => match d, d2 with
  | .int a, .int b => (-(2 ^ 62) ≤ a ∧ a < 2 ^ 62 ∧ -(2 ^ 62) ≤ b ∧ b < 2 ^ 62) ∧ R (numsFrom a (b - a).toNat) G2
  | _, _ => False
theorem mi_range1 {a : Expr} {ta : DE} {p pos : Pos} (hg : Gl X "range") (hm : X.mg "range" = none) (ha : ME X W a ta) (hs : starEach [a] X.env = [(false, eval a X.env)]) : MI X W tg (.Call (.Name "range" p) [a] [] pos) (dRng1 ta) :=
  ⟨PI.imp (pi_range1 hg hm (pa_cons ha.pe pa_nil hs) hs) fun τ H R ⟨P, σ, G, ex, Qd, a, x, h, k⟩ => ⟨P, σ, G, ex, _, a, x, h, fun d G1 h1 v H1 r a1 s1 => by
    cases d with
    | int n =>
      cases r
      exact ⟨n, rfl, h1.1.1, h1.1.2, k _ _ h1.2 _ _ a1 s1 walks_range⟩
    | _ => exact h1.elim⟩⟩
theorem mi_range2 {a b : Expr} {ta tb : DE} {p pos : Pos} (hg : Gl X "range") (hm : X.mg "range" = none) (ha : ME X W a ta) (hb : ME X W b tb) (hs : starEach [a, b] X.env = [(false, eval a X.env), (false, eval b X.env)]) (hs2 : starEach [b] X.env = [(false, eval b X.env)]) :
    MI X W tg (.Call (.Name "range" p) [a, b] [] pos) (dRng2 ta tb) :=
  ⟨PI.imp (pi_range2 hg hm (pa_cons ha.pe (pa_cons hb.pe pa_nil hs2) (by rw [hs, hs2])) hs hs2) fun τ H R ⟨P, σ, G, ex, Qd, a, x, h, k⟩ => ⟨P, σ, G, ex, _, a, x, h, fun d G1 h1 v H1 r a1 s1 =>
    ⟨P, σ, G1, ex, _, a.to a1 s1, x.to s1, h1, fun d2 G2 h2 v2 H2 r2 a2 s2 => by
      cases d with
      | int n => cases d2 with
        | int m =>
          cases r
          cases r2
          exact ⟨n, m, rfl, h2.1, k _ _ h2.2 _ _ a2 (s1.trans s2) walks_range⟩
        | _ => exact h2.elim
      | _ => exact h2.elim⟩⟩⟩
/-- zip(a, b): both rows lists, or both tuples -/
def zipD (xs ys : List D) : List D := (xs.zip ys).map fun p => D.tup [p.1, p.2]
def dZip (ta tb : DE) : DI := fun σ G ex R => ta σ G ex fun d G1 => tb σ G1 ex fun d2 G2 => match d, d2 with
  | .lst xs, .lst ys => R (zipD xs ys) G2
  | .tup xs, .tup ys => R (zipD xs ys) G2
  | _, _ => False
theorem zip_get {xs ys : List D} {i : Nat} {x : D} (h : (zipD xs ys)[i]? = some x) : ∃ a b, xs[i]? = some a ∧ ys[i]? = some b ∧ x = .tup [a, b] := by
  unfold zipD at h
  rw [List.getElem?_map] at h
  cases e : (xs.zip ys)[i]? with
  | none => rw [e] at h; cases h
  | some p =>
    rw [e] at h
    cases h
    obtain ⟨h1, h2⟩ := List.getElem?_zip_eq_some.mp e
    exact ⟨p.1, p.2, h1, h2, rfl⟩
theorem zip_new {P : Pv} {G : Gp} {H : Hp} {T : Addr} {d1 d2 : D} {v1 v2 : V} (a : Wd P G H) (hT : H T = none) (r1 : Rl P G H d1 v1) (r2 : Rl P G H d2 v2) :
    Rl P G (upd H T (.tup [v1, v2])) (.tup [d1, d2]) (.ref T) ∧ Wd P G (upd H T (.tup [v1, v2])) ∧ Sp' P G H G (upd H T (.tup [v1, v2])) ∧ ∀ b u, H b = some u → upd H T (.tup [v1, v2]) b = some u :=
  ⟨.tup upd_same (a.ofree hT) (.cons (r1.stp (Stp.new hT)) (.cons (r2.stp (Stp.new hT)) .nil)), a.new hT, Sp'.new a hT, fun b u q => by rw [upd_ne (ne_of_none q hT)]; exact q⟩
theorem walks_zipL {K : PySem.W.Frag} {a b : Addr} {ds es : List D} {vs us : List V} {P : Pv} {G : Gp} {H : Hp} (h : H a = some (.lst vs)) (g : Ov P G a = none) (r : Rls P G H ds vs) (h2 : H b = some (.lst us)) (g2 : Ov P G b = none) (r2 : Rls P G H es us) : Walks (Itz K a b) (zipD ds es) P G H where
  go := fun P' i G' H' x a' s' e => by
    obtain ⟨d1, d2, e1, e2, rfl⟩ := zip_get e
    obtain ⟨v1, hv1, rv1⟩ := (r.stp s').get e1
    obtain ⟨v2, hv2, rv2⟩ := (r2.stp s').get e2
    have q1 : SqL K H' a vs := .inl (.inl (s' _ _ h g).1)
    have q2 : SqL K H' b us := .inl (.inl (s' _ _ h2 g2).1)
    refine ⟨⟨vs, us, v1, v2, q1, q2, hv1, hv2⟩, fun v H2 ⟨T, x', y', ev, hT, eH, f1, f2⟩ => ?_⟩
    subst ev
    subst eH
    have z1 := f1 vs q1
    have z2 := f2 us q2
    rw [hv1] at z1
    rw [hv2] at z2
    cases z1
    cases z2
    exact zip_new a' hT rv1 rv2
  stop := fun P' i G' H' a' s' hl => ⟨vs, us, .inl (.inl (s' _ _ h g).1), .inl (.inl (s' _ _ h2 g2).1), by
    have e1 := r.len
    have e2 := r2.len
    unfold zipD at hl
    rw [List.length_map, List.length_zip] at hl
    omega⟩
theorem walks_zipT {K : PySem.W.Frag} {a b : Addr} {ds es : List D} {vs us : List V} {P : Pv} {G : Gp} {H : Hp} (h : H a = some (.tup vs)) (g : Ov P G a = none) (r : Rls P G H ds vs) (h2 : H b = some (.tup us)) (g2 : Ov P G b = none) (r2 : Rls P G H es us) : Walks (RZ.ItzT K a b) (zipD ds es) P G H where
  go := fun P' i G' H' x a' s' e => by
    obtain ⟨d1, d2, e1, e2, rfl⟩ := zip_get e
    obtain ⟨v1, hv1, rv1⟩ := (r.stp s').get e1
    obtain ⟨v2, hv2, rv2⟩ := (r2.stp s').get e2
    have q1 : SqT K H' a vs := .inl (.inl (s' _ _ h g).1)
    have q2 : SqT K H' b us := .inl (.inl (s' _ _ h2 g2).1)
    refine ⟨⟨vs, us, v1, v2, q1, q2, hv1, hv2⟩, fun v H2 ⟨T, x', y', ev, hT, eH, f1, f2⟩ => ?_⟩
    subst ev
    subst eH
    have z1 := f1 vs q1
    have z2 := f2 us q2
    rw [hv1] at z1
    rw [hv2] at z2
    cases z1
    cases z2
    exact zip_new a' hT rv1 rv2
  stop := fun P' i G' H' a' s' hl => ⟨vs, us, .inl (.inl (s' _ _ h g).1), .inl (.inl (s' _ _ h2 g2).1), by
    have e1 := r.len
    have e2 := r2.len
    unfold zipD at hl
    rw [List.length_map, List.length_zip] at hl
    omega⟩
theorem mi_zip {a b : Expr} {ta tb : DE} {p pos tpos : Pos} {elts : List Expr} {kk : Nat} (hg : Gl X "zip") (hm : X.mg "zip" = none) (ha : ME X W a ta) (hb : ME X W b tb)
    (hs : starEach [a, b] X.env = (false, eval a X.env) :: starEach [b] X.env) (hs2 : starEach [b] X.env = [(false, eval b X.env)]) (hpl : (backTo pos (starEach [b] X.env)).any (·.1) = false) :
    MI X W (.Tuple elts kk tpos) (.Call (.Name "zip" p) [a, b] [] pos) (dZip ta tb) :=
  ⟨PI.imp (RZ.pi_zipA hg hm (pa_cons ha.pe (pa_cons hb.pe pa_nil hs2) hs) hs hpl) fun τ H R ⟨P, σ, G, ex, Qd, a, x, h, k⟩ => ⟨P, σ, G, ex, _, a, x, h, fun d G1 h1 v H1 r a1 s1 =>
    ⟨P, σ, G1, ex, _, a.to a1 s1, x.to s1, h1, fun d2 G2 h2 v2 H2 r2 a2 s2 => by
      have r' := r.stp s2.s
      match d, d2, h2, r', r2 with
      | .lst xs, .lst ys, h2, .lst hH hG rs, .lst hH2 hG2 rs2 => exact ⟨_, _, _, _, rfl, .inl ⟨.inl (.inl hH), .inl (.inl hH2), k _ _ h2 _ _ a2 (s1.trans s2) (walks_zipL hH hG rs hH2 hG2 rs2)⟩⟩
      | .tup xs, .tup ys, h2, .tup hH hG rs, .tup hH2 hG2 rs2 => exact ⟨_, _, _, _, rfl, .inr ⟨.inl (.inl hH), .inl (.inl hH2), k _ _ h2 _ _ a2 (s1.trans s2) (walks_zipT hH hG rs hH2 hG2 rs2)⟩⟩⟩⟩⟩

/-! ### comprehensions -/
def dwipe (σ : DSt) : List Nat → DSt
  | [] => σ
  | v :: vs => (dwipe σ vs).set v none
theorem dwipe_len (σ : DSt) : ∀ vs, (dwipe σ vs).length = σ.length
  | [] => rfl
  | v :: vs => by unfold dwipe; rw [List.length_set, dwipe_len σ vs]
theorem At.wipe {P : Pv} {σ : DSt} {G : Gp} {τ : L2.St} {H : Hp} (a : At P σ G τ H) : ∀ vs, At P (dwipe σ vs) G (L2.wipe τ vs) H
  | [] => a
  | v :: vs => by
    have ih := At.wipe a vs
    refine ⟨ih.wd, fun i d e => ?_, by rw [dwipe_len, wipe_length, a.ln]⟩
    unfold dwipe at e
    unfold L2.wipe
    by_cases n : v = i
    · subst n
      rw [List.getElem?_set] at e
      rw [if_pos rfl] at e
      split at e <;> cases e
    · rw [List.getElem?_set_ne n] at e
      obtain ⟨u, h1, h2⟩ := ih.sl i d e
      exact ⟨u, by rw [List.getElem?_set_ne n]; exact h1, h2⟩
theorem wipe_at (τ : L2.St) (j : Nat) : ∀ vs : List Nat, (L2.wipe τ vs)[j]? = if j ∈ vs then (if j < τ.length then some none else none) else τ[j]?
  | [] => by rw [if_neg (by simp)]; rfl
  | v :: vs => by
    unfold L2.wipe
    rw [List.getElem?_set, wipe_length, wipe_at τ j vs]
    by_cases e : v = j
    · subst e
      rw [if_pos rfl, if_pos List.mem_cons_self]
    · rw [if_neg e]
      by_cases h : j ∈ vs
      · rw [if_pos h, if_pos (List.mem_cons_of_mem _ h)]
      · rw [if_neg h, if_neg (by simp only [List.mem_cons, not_or]; exact ⟨fun z => e z.symm, h⟩)]
theorem wipe_set {τ : L2.St} {i : Nat} {x : Option V} {vs : List Nat} (h : i ∈ vs) : L2.wipe (τ.set i x) vs = L2.wipe τ vs := by
  apply List.ext_getElem?
  intro j
  rw [wipe_at, wipe_at, List.length_set]
  by_cases e : j ∈ vs
  · rw [if_pos e, if_pos e]
  · rw [if_neg e, if_neg e, List.getElem?_set_ne (fun (z : i = j) => e (by rw [← z]; exact h))]
theorem wipe_wipe (τ : L2.St) (vs : List Nat) : L2.wipe (L2.wipe τ vs) vs = L2.wipe τ vs := by
  apply List.ext_getElem?
  intro j
  rw [wipe_at, wipe_at, wipe_length]
  by_cases e : j ∈ vs
  · rw [if_pos e, if_pos e]
  · rw [if_neg e, if_neg e]
/-- a target of plain names -/
inductive TK where
  | one (i : Nat)
  | tup (is : List Nat)
def TK.names : TK → List Nat
  | .one i => [i]
  | .tup is => is
def TK.d : TK → DG
  | .one i => gName' i
  | .tup is => gTup' is
def TK.t (K : PySem.W.Frag) : TK → TG
  | .one i => gName i
  | .tup is => gTup K is.length (tNames is)
theorem names_wipe : ∀ (is : List Nat) {vs : List Nat} {us : List V} {τ : L2.St} {H : Hp} {Q : L2.St → Hp → Prop}, (∀ i ∈ is, i ∈ vs) → tNames is us τ H (fun τ' H' => L2.wipe τ' vs = L2.wipe τ vs → Q τ' H') → tNames is us τ H Q
  | [], vs, us, τ, H, Q, _, h => ⟨h.1, h.2 rfl⟩
  | i :: is, vs, us, τ, H, Q, hm, ⟨v, r, e, h⟩ => ⟨v, r, e, names_wipe is (fun j hj => hm j (List.mem_cons_of_mem _ hj)) (by
      have q : L2.wipe (τ.set i (some v)) vs = L2.wipe τ vs := wipe_set (hm i List.mem_cons_self)
      have h' : tNames is r (τ.set i (some v)) H (fun τ' H' => L2.wipe τ' vs = L2.wipe τ vs → Q τ' H') := h
      rw [← q] at h'
      exact h')⟩
theorem tgt_run {K : PySem.W.Frag} {tk : TK} {vs : List Nat} {P : Pv} {d : D} {v : V} {σ : DSt} {G : Gp} {ex : DX} {Qd : DSt → Gp → Prop} {τ : L2.St} {H : Hp} {Q : L2.St → Hp → Prop} (hm : ∀ i ∈ tk.names, i ∈ vs) (h : tk.d d (dwipe σ vs) G ex Qd) (r : Rl P G H d v) (a : At P σ G τ H)
    (k : ∀ σ2 τ2, Qd σ2 G → At P σ2 G τ2 H → L2.wipe τ2 vs = L2.wipe τ vs → Q τ2 H) : tk.t K v (L2.wipe τ vs) H Q := by
  have aw := a.wipe vs
  cases tk with
  | one i =>
    refine k _ _ h (aw.set r i) ?_
    rw [wipe_set (hm i List.mem_cons_self), wipe_wipe]
  | tup is =>
    cases d with
    | tup ds =>
      obtain ⟨hl, h⟩ := h
      cases r with
      | tup hH hG rs =>
        refine ⟨_, _, rfl, .inl (.inl hH), by rw [← rs.len, hl], names_wipe is hm (names_run is rs hl aw fun τ' a' w => k _ _ h a' ?_)⟩
        rw [w, wipe_wipe]
    | _ => exact h.elim
theorem pg_tgt {X : Cx} (hN : X.N.Nodup) (hc : X.calm = true) {tk : TK} {tg : Expr} (h : match tk with
    | .one i => ∃ x p, tg = .Name x p ∧ X.N[i]? = some x ∧ Loc X.env.scope x ∧ (X.fn x = true ∨ X.env.scope.names.lookup x = some .local)
    | .tup is => ∃ es k p, tg = .Tuple es k p ∧ NamesAt X es is) : PG X tg (tk.t X.K) := by
  cases tk with
  | one i =>
    obtain ⟨x, p, rfl, h1, h2, h3⟩ := h
    exact pg_name hN h1 h2 h3
  | tup is =>
    obtain ⟨es, k, p, rfl, h1⟩ := h
    have q := pg_tup (k := k) (pos := p) hc (pgs_names hN h1) (names_ea h1).1 (names_ea h1).2
    rw [names_len h1] at q
    exact q
structure MTs (X : Cx) (W : WX) (ifs : List Expr) (t : DT) : Prop where
  pt : PTs X ifs (liftT W t)
def dYes : DT := fun _ G _ Q => Q true G
theorem PTs.imp {ifs : List Expr} {t t' : TT} (h : PTs X ifs t) (i : ∀ σ H Q, t' σ H Q → t σ H Q) : PTs X ifs t' := ⟨fun pins s σ H Q I q => h.run pins s σ H Q I (i σ H Q q)⟩
theorem mts_nil : MTs X W [] dYes := ⟨PTs.imp pts_nil fun τ H Q ⟨P, σ, G, ex, Qd, a, x, t, k⟩ => k _ _ t _ a.wd Sp'.refl⟩
theorem mts_one {c : Expr} {t : DT} (h : MT X W c t) : MTs X W [c] t := ⟨pts_one h.pt⟩
def W0 : WX := fun _ _ _ _ => False
def X0 : DX := fun _ _ => False
/-- the turns of a comprehension: the items left, what has come -/
def dTurns (tk : TK) (tt : DT) (te : DE) (vs : List Nat) (σ : DSt) : List D → List D → Gp → (List D → Gp → Prop) → Prop
  | [], acc, G, k => k acc G
  | x :: r, acc, G, k => tk.d x (dwipe σ vs) G X0 fun σ2 G2 => tt σ2 G2 X0 fun b G3 => match b with
    | true => te σ2 G3 X0 fun y G4 => acc.length < 10000000 ∧ dTurns tk tt te vs σ r (acc ++ [y]) G4 k
    | false => dTurns tk tt te vs σ r acc G3 k
def dComp (wi : DI) (tk : TK) (tt : DT) (te : DE) (vs : List Nat) : DE := fun σ G ex Q => wi σ G ex fun xs G1 => dTurns tk tt te vs σ xs [] G1 fun acc G2 => Q (.lst acc) G2
theorem Wd.add {P : Pv} {G : Gp} {H : Hp} {p : Addr} {o : HO} (w : Wd P G H) (h : H p = none) : Wd (P.add p) G (upd H p o) := by
  refine ⟨fun a z => ?_, ?_⟩
  · rcases z with z | z
    · rw [z]; exact w.free h
    · exact w.dis a z
  · rw [Ov_add]
    exact w.abs.newO h ⟨_, upd_same⟩
theorem add_stp {P : Pv} {G : Gp} {H : Hp} {p : Addr} {o : HO} (w : Wd P G H) (h : H p = none) : Stp (Ov P G) H (Ov (P.add p) G) (upd H p o) := by
  rw [Ov_add]
  exact Stp.newO h
/-- the private thing changes -/
theorem Wd.prv {P : Pv} {G : Gp} {H : Hp} {p : Addr} {o : HO} (w : Wd (P.add p) G H) : Wd (P.add p) G (upd H p o) ∧ Stp (Ov (P.add p) G) H (Ov (P.add p) G) (upd H p o) := by
  have e : Ov (P.add p) G p = some .prv := Ov_in (.inl rfl)
  have e2 : (Ov (P.add p) G).set p .prv = Ov (P.add p) G := by
    funext b
    by_cases q : b = p
    · subst q; rw [Gp.set_same, e]
    · rw [Gp.set_ne q]
  have h1 := Abs.chg (o := o) (g := .prv) w.abs e ⟨_, upd_same⟩
  have h2 := Stp.chg (H := H) (o := o) (g := .prv) e
  rw [e2] at h1 h2
  exact ⟨⟨w.dis, h1⟩, h2⟩
/-- it is private no more -/
theorem Wd.unadd {P : Pv} {G : Gp} {H : Hp} {p : Addr} (np : ¬ P p) (w : Wd (P.add p) G H) : Wd P G H ∧ Stp (Ov (P.add p) G) H (Ov P G) H ∧ Ov P G p = none := by
  have g0 : G p = none := w.dis p (.inl rfl)
  have e0 : Ov P G p = none := Ov_none.mpr ⟨np, g0⟩
  have le : Le (Ov P G) (Ov (P.add p) G) := fun a o e => by
    rw [Ov_add, Gp.set_ne (fun z => by rw [z, e0] at e; cases e)]
    exact e
  exact ⟨⟨fun a z => w.dis a (.inr z), w.abs.le le⟩, le.stp, e0⟩
/-- where a comprehension's list stands in the midst of its turns -/
def Mid (P : Pv) (Dl : Addr) (o : List D → Gp → Hp → Prop) (G1 : Gp) (H1 : Hp) (τ : L2.St) (σ : DSt) (q : List D → Gp → Prop) (H' : Hp) : Prop :=
  ∃ G' acc, At (P.add Dl) σ G' τ H' ∧ Stp (Ov P G1) H1 (Ov (P.add Dl) G') H' ∧ (∀ a, P a → H' a = H1 a) ∧ o acc (Ov (P.add Dl) G') H' ∧ q acc G'
/-- a list in the making -/
def AccL (Dl : Addr) (acc : List D) (Γ : Gp) (H' : Hp) : Prop := ∃ us, H' Dl = some (.lst us) ∧ Rels Γ H' acc us
theorem lc_lift {K : PySem.W.Frag} {wi : DI} {tk : TK} {tt : DT} {te : DE} {vs : List Nat} (hm : ∀ i ∈ tk.names, i ∈ vs) : ∀ τ H Q, liftE W (dComp wi tk tt te vs) τ H Q → tLc (liftI W wi) (tk.t K) (liftT W0 tt) (liftE W0 te) vs τ H Q := fun τ H Q ⟨P, σ, G, ex, Qd, a, x, h, k⟩ => ⟨P, σ, G, ex, _, a, x, h, fun xs G1 h1 J H1 a1 s1 wk Dl hD => by
    have np := a1.npv hD
    refine ⟨fun i m H' => m = xs.length - i ∧ i ≤ xs.length ∧ Mid P Dl (AccL Dl) G1 H1 τ σ (fun acc G' => dTurns tk tt te vs σ (xs.drop i) acc G' fun acc G2 => Qd (.lst acc) G2) H',
      ⟨xs.length, rfl, Nat.zero_le _, G1, [], ⟨a1.add hD, (a.to a1 s1).sl.stp (add_stp a1 hD), a.ln⟩, add_stp a1 hD, fun b z => upd_ne fun e => np (by rw [← e]; exact z), ⟨[], upd_same, .nil⟩, h1⟩, ?_⟩
    rintro i m H' ⟨rfl, hle, G', acc, a', s', sp, ⟨us, hH, rs⟩, q⟩
    cases e : xs.drop i with
    | nil =>
      rw [e] at q
      have hi2 : xs.length ≤ i := by
        have e2 := congrArg List.length e
        rw [List.length_drop, List.length_nil] at e2
        omega
      obtain ⟨w2, s2, e2⟩ := Wd.unadd np a'.wd
      exact .inl ⟨wk.stop _ i G' H' a'.wd s' hi2, k _ _ q _ _ (.lst hH e2 (rs.stp s2)) w2 (s1.trans ⟨s'.trans s2, sp⟩)⟩
    | cons x0 r =>
      rw [e] at q
      obtain ⟨e1, e2⟩ := drop_cons e
      obtain ⟨go, yl⟩ := wk.go _ i G' H' x0 a'.wd s' e1
      have hlt : i < xs.length := (List.getElem?_eq_some_iff.mp e1).1
      refine .inr ⟨go, Mid P Dl (AccL Dl) G1 H1 τ σ (fun acc G' => dTurns tk tt te vs σ r acc G' fun acc G2 => Qd (.lst acc) G2), fun H2 q2 => ⟨xs.length - (i + 1), by omega, rfl, hlt, by rw [e2]; exact q2⟩, fun v H2 y => ?_⟩
      obtain ⟨rx, w2, s2, k2⟩ := yl v H2 y
      refine tgt_run (K := K) hm q rx (a'.to w2 s2) fun σ2 τ2 q2 a2 ew => ⟨ew, _, σ2, G', X0, _, a2, XOk.none, q2, fun b G3 q3 H3 w3 s3 => ?_⟩
      have s23 := s2.trans s3
      have a3 := a'.to w3 s23
      have hH3 : H3 Dl = some (.lst us) := (s23.p Dl (.inl rfl)).trans hH
      cases b with
      | false =>
        show Mid P Dl (AccL Dl) G1 H1 τ σ _ H3
        exact ⟨G3, acc, a3, s'.trans s23.s, fun b z => (s23.p b (.inr z)).trans (sp b z), ⟨us, hH3, rs.stp s23.s⟩, q3⟩
      | true =>
        show liftE W0 te τ2 H3 _
        refine ⟨_, σ2, G3, X0, _, a2.to w3 s3, XOk.none, q3, fun y G4 q4 vy H4 ry w4 s4 => ?_⟩
        have s24 := s23.trans s4
        have hH4 : H4 Dl = some (.lst us) := (s4.p Dl (.inl rfl)).trans hH3
        obtain ⟨w5, s5⟩ := Wd.prv (o := .lst (us ++ [vy])) w4
        have rs4 := rs.stp s24.s
        refine ⟨us, hH4, by rw [← rs4.len]; exact lim_lt q4.1, G4, acc ++ [y], ⟨w5, (a'.to w4 s24).sl.stp s5, a.ln⟩, (s'.trans s24.s).trans s5, fun b z => ?_, ⟨us ++ [vy], upd_same, (rs4.stp s5).append (.cons (ry.stp s5) .nil)⟩, q4.2⟩
        rw [upd_ne (fun (e : b = Dl) => np (by rw [← e]; exact z))]
        exact (s24.p b (.inr z)).trans (sp b z)⟩
theorem me_lc {elt tg iter : Expr} {ifs : List Expr} {scope : Scope} {own : List (Str × Nat)} {pos : Pos} {wi : DI} {tk : TK} {tt : DT} {te : DE} (c : CxY X) (hi : MI X W tg iter wi) (ok : BlkOk X.N X.env.scope scope own) (hm : ∀ i ∈ tk.names, i ∈ own.map (·.2))
    (hg : ∀ (s : Shared) (H : Hp) (C : Addr) (cl : List (Str × Addr)) (fp : List Addr), PG (X.blk s H scope (compEnvC scope cl C X.env) fp) tg (tk.t X.K))
    (ht : ∀ (s : Shared) (H : Hp) (C : Addr) (cl : List (Str × Addr)) (fp : List Addr), MTs (X.blk s H scope (compEnvC scope cl C X.env) fp) W0 ifs tt)
    (he : ∀ (s : Shared) (H : Hp) (C : Addr) (cl : List (Str × Addr)) (fp : List Addr), ME (X.blk s H scope (compEnvC scope cl C X.env) fp) W0 elt te) (hs : ∀ x, foldedSetIterable iter X.env x = pure x) :
    ME X W (.ListComp elt [⟨tg, iter, ifs, 0⟩] scope pos) (dComp wi tk tt te (own.map (·.2))) :=
  ⟨PE.imp (pe_lc c.calm c.nd hi.pi ok hg (fun s H C cl fp => (ht s H C cl fp).pt) (fun s H C cl fp => (he s H C cl fp).pe) hs) (lc_lift hm)⟩
/-- name = [..] on one line, the name a plain local -/
theorem ms_setLc {i : Nat} {y : Str} {py : Pos} {elt tg iter : Expr} {ifs : List Expr} {scope : Scope} {own : List (Str × Nat)} {pos spos : Pos} {wi : DI} {tk : TK} {tt : DT} {te : DE} (c : CxY X) (hy : X.N[i]? = some y) (hyl : X.env.scope.names.lookup y = some .local)
    (hsw : swapsWith (.ListComp elt [⟨tg, iter, ifs, 0⟩] scope pos) (some (.Name y py)) spos.line X.env = pure true) (hi : MI X W tg iter wi) (ok : BlkOk X.N X.env.scope scope own) (hm : ∀ i ∈ tk.names, i ∈ own.map (·.2))
    (hg : ∀ (s : Shared) (H : Hp) (C : Addr) (cl : List (Str × Addr)) (fp : List Addr), PG (X.blk s H scope (compEnvC scope cl C X.env) fp) tg (tk.t X.K))
    (ht : ∀ (s : Shared) (H : Hp) (C : Addr) (cl : List (Str × Addr)) (fp : List Addr), MTs (X.blk s H scope (compEnvC scope cl C X.env) fp) W0 ifs tt)
    (he : ∀ (s : Shared) (H : Hp) (C : Addr) (cl : List (Str × Addr)) (fp : List Addr), ME (X.blk s H scope (compEnvC scope cl C X.env) fp) W0 elt te) (hs : ∀ x, foldedSetIterable iter X.env x = pure x) :
    MS X W (.Assign [.Name y py] (.ListComp elt [⟨tg, iter, ifs, 0⟩] scope pos) spos) (dAsg (dComp wi tk tt te (own.map (·.2))) (gName' i)) :=
  ⟨PS.imp (ps_setLc c.calm c.nd hy hyl hsw hi.pi ok hg (fun s H C cl fp => (ht s H C cl fp).pt) (fun s H C cl fp => (he s H C cl fp).pe) hs) fun F τ H ⟨P, σ, G, E, a, ek, h⟩ =>
    lc_lift hm _ _ _ ⟨P, σ, G, E.ex, _, a, ek.xok, h, fun d G1 h1 v H1 r a1 s1 => ek.nx _ _ h1 _ _ ((a.to a1 s1).set r i) s1⟩⟩
/-! ### dict comprehensions -/
def dTurnsD (tk : TK) (tt : DT) (t1 t2 : DE) (vs : List Nat) (σ : DSt) : List D → List (DKey × D) → Gp → (List (DKey × D) → Gp → Prop) → Prop
  | [], acc, G, k => k acc G
  | x :: r, acc, G, k => tk.d x (dwipe σ vs) G X0 fun σ2 G2 => tt σ2 G2 X0 fun b G3 => match b with
    | true => t1 σ2 G3 X0 fun y G4 => t2 σ2 G4 X0 fun z G5 => match keyOf y with
      | some key => acc.length < 10000000 ∧ dTurnsD tk tt t1 t2 vs σ r (dput acc key z) G5 k
      | none => False
    | false => dTurnsD tk tt t1 t2 vs σ r acc G3 k
def dCompD (wi : DI) (tk : TK) (tt : DT) (t1 t2 : DE) (vs : List Nat) : DE := fun σ G ex Q => wi σ G ex fun xs G1 => dTurnsD tk tt t1 t2 vs σ xs [] G1 fun acc G2 => ∀ p, G2 p = none → Q (.ref p) (G2.set p (.dic acc))
def AccD (Dl : Addr) (acc : List (DKey × D)) (Γ : Gp) (H' : Hp) : Prop := ∃ us, H' Dl = some (.dK us) ∧ Paired (PRel Γ H') acc us
def MidD (P : Pv) (Dl : Addr) (G1 : Gp) (H1 : Hp) (τ : L2.St) (σ : DSt) (q : List (DKey × D) → Gp → Prop) (H' : Hp) : Prop :=
  ∃ G' acc, At (P.add Dl) σ G' τ H' ∧ Stp (Ov P G1) H1 (Ov (P.add Dl) G') H' ∧ (∀ a, P a → H' a = H1 a) ∧ AccD Dl acc (Ov (P.add Dl) G') H' ∧ q acc G'
theorem me_dc {kx vx tg iter : Expr} {ifs : List Expr} {scope : Scope} {own : List (Str × Nat)} {pos : Pos} {wi : DI} {tk : TK} {tt : DT} {t1 t2 : DE} (c : CxY X) (hi : MI X W tg iter wi) (ok : BlkOk X.N X.env.scope scope own) (hm : ∀ i ∈ tk.names, i ∈ own.map (·.2))
    (hg : ∀ (s : Shared) (H : Hp) (C : Addr) (cl : List (Str × Addr)) (fp : List Addr), PG (X.blk s H scope (compEnvC scope cl C X.env) fp) tg (tk.t X.K))
    (ht : ∀ (s : Shared) (H : Hp) (C : Addr) (cl : List (Str × Addr)) (fp : List Addr), MTs (X.blk s H scope (compEnvC scope cl C X.env) fp) W0 ifs tt)
    (h1 : ∀ (s : Shared) (H : Hp) (C : Addr) (cl : List (Str × Addr)) (fp : List Addr), ME (X.blk s H scope (compEnvC scope cl C X.env) fp) W0 kx t1)
    (h2 : ∀ (s : Shared) (H : Hp) (C : Addr) (cl : List (Str × Addr)) (fp : List Addr), ME (X.blk s H scope (compEnvC scope cl C X.env) fp) W0 vx t2) (hs : ∀ x, foldedSetIterable iter X.env x = pure x) :
    ME X W (.DictComp kx vx [⟨tg, iter, ifs, 0⟩] scope pos) (dCompD wi tk tt t1 t2 (own.map (·.2))) :=
  ⟨PE.imp (pe_dc c.calm c.nd hi.pi ok hg (fun s H C cl fp => (ht s H C cl fp).pt) (fun s H C cl fp => (h1 s H C cl fp).pe) (fun s H C cl fp => (h2 s H C cl fp).pe) hs) fun τ H Q ⟨P, σ, G, ex, Qd, a, x, h, k⟩ => ⟨P, σ, G, ex, _, a, x, h, fun xs G1 h1 J H1 a1 s1 wk Dl hD => by
    have np := a1.npv hD
    refine ⟨fun i m H' => m = xs.length - i ∧ i ≤ xs.length ∧ MidD P Dl G1 H1 τ σ (fun acc G' => dTurnsD tk tt t1 t2 (own.map (·.2)) σ (xs.drop i) acc G' fun acc G2 => ∀ p, G2 p = none → Qd (.ref p) (G2.set p (.dic acc))) H',
      ⟨xs.length, rfl, Nat.zero_le _, G1, [], ⟨a1.add hD, (a.to a1 s1).sl.stp (add_stp a1 hD), a.ln⟩, add_stp a1 hD, fun b z => upd_ne fun e => np (by rw [← e]; exact z), ⟨[], upd_same, .nil⟩, h1⟩, ?_⟩
    rintro i m H' ⟨rfl, hle, G', acc, a', s', sp, ⟨us, hH, rs⟩, q⟩
    cases e : xs.drop i with
    | nil =>
      rw [e] at q
      have hi2 : xs.length ≤ i := by
        have e2 := congrArg List.length e
        rw [List.length_drop, List.length_nil] at e2
        omega
      -- the dict is owned from now on
      have g0 : G' Dl = none := a'.wd.dis Dl (.inl rfl)
      have eq : ∀ b, b ≠ Dl → Ov (P.add Dl) G' b = Ov P (G'.set Dl (.dic acc)) b := fun b hb => by
        rw [Ov_add, Ov_set np, Gp.set_ne hb, Gp.set_ne hb]
      have st : Stp (Ov (P.add Dl) G') H' (Ov P (G'.set Dl (.dic acc))) H' := fun b o hb g => by
        by_cases n : b = Dl
        · rw [n, Ov_in (.inl rfl)] at g; cases g
        · exact ⟨hb, by rw [← eq b n]; exact g⟩
      have w2 : Wd P (G'.set Dl (.dic acc)) H' := by
        refine ⟨fun b z => ?_, fun b o g => ?_⟩
        · rw [Gp.set_ne (fun (n : b = Dl) => np (by rw [← n]; exact z))]
          exact a'.wd.dis b (.inr z)
        · by_cases n : b = Dl
          · subst n
            rw [Ov_out np, Gp.set_same] at g
            cases g
            exact ⟨us, hH, pair_stp (f := kS) rs st⟩
          · rw [← eq b n] at g
            exact (a'.wd.abs b o g).stp st rfl
      exact .inl ⟨wk.stop _ i G' H' a'.wd s' hi2, k _ _ (q Dl g0) _ _ (.ref Dl) w2 (s1.trans ⟨s'.trans st, sp⟩)⟩
    | cons x0 r =>
      rw [e] at q
      obtain ⟨e1, e2⟩ := drop_cons e
      obtain ⟨go, yl⟩ := wk.go _ i G' H' x0 a'.wd s' e1
      have hlt : i < xs.length := (List.getElem?_eq_some_iff.mp e1).1
      refine .inr ⟨go, MidD P Dl G1 H1 τ σ (fun acc G' => dTurnsD tk tt t1 t2 (own.map (·.2)) σ r acc G' fun acc G2 => ∀ p, G2 p = none → Qd (.ref p) (G2.set p (.dic acc))), fun H2 q2 => ⟨xs.length - (i + 1), by omega, rfl, hlt, by rw [e2]; exact q2⟩, fun v H2 y => ?_⟩
      obtain ⟨rx, w2, s2, k2⟩ := yl v H2 y
      refine tgt_run (K := X.K) hm q rx (a'.to w2 s2) fun σ2 τ2 q2 a2 ew => ⟨ew, _, σ2, G', X0, _, a2, XOk.none, q2, fun b G3 q3 H3 w3 s3 => ?_⟩
      have s23 := s2.trans s3
      have hH3 : H3 Dl = some (.dK us) := (s23.p Dl (.inl rfl)).trans hH
      cases b with
      | false =>
        show MidD P Dl G1 H1 τ σ _ H3
        exact ⟨G3, acc, a'.to w3 s23, s'.trans s23.s, fun b z => (s23.p b (.inr z)).trans (sp b z), ⟨us, hH3, pair_stp (f := kS) rs s23.s⟩, q3⟩
      | true =>
        show liftE W0 t1 τ2 H3 _
        refine ⟨_, σ2, G3, X0, _, a2.to w3 s3, XOk.none, q3, fun y G4 q4 vy H4 ry w4 s4 => ⟨_, σ2, G4, X0, _, (a2.to w3 s3).to w4 s4, XOk.none, q4, fun z G5 q5 vz H5 rz w5 s5 => ?_⟩⟩
        cases ek : keyOf y with
        | none =>
          rw [ek] at q5
          exact q5.elim
        | some key =>
          rw [ek] at q5
          have s25 := (s23.trans s4).trans s5
          have hH5 : H5 Dl = some (.dK us) := ((s5.p Dl (.inl rfl)).trans (s4.p Dl (.inl rfl))).trans hH3
          obtain ⟨w6, s6⟩ := Wd.prv (o := .dK (putK us (kS key) vz)) w5
          have rs5 := pair_stp (f := kS) rs s25.s
          refine ⟨us, kS key, keyOf_rel ek ry, hH5, by rw [← Paired.length rs5]; exact lim_lt q5.1, G5, dput acc key z, ⟨w6, (a'.to w5 s25).sl.stp s6, a.ln⟩, (s'.trans s25.s).trans s6, fun b z => ?_, ⟨_, upd_same, pair_stp (f := kS) (dput_rel rs5 rz) s6⟩, q5.2⟩
          rw [upd_ne (fun (e : b = Dl) => np (by rw [← e]; exact z))]
          exact (s25.p b (.inr z)).trans (sp b z)⟩⟩
end
end Y
/-! Y5: operators over trees by values: arithmetic, texts, rows, comparisons, places, slices. -/
namespace Y
open PySem PySem.Spec PyProof.Rows L2

/-! ### data for == and repr -/
mutual
def py : D → PyData
  | .non => .none
  | .bl b => .bool b
  | .int i => .int i
  | .str s => .str (St s)
  | .tup ds => .tuple (pys ds)
  | .lst ds => .list (pys ds)
  | .scr ns => .list (ns.map PyData.int)
  | .ref _ => .none
  | .ty _ => .none
def pys : List D → List PyData
  | [] => []
  | d :: ds => py d :: pys ds
end
mutual
/-- data alone, at most so deep, its signs signs -/
def sh : Nat → D → Bool
  | _, .non => true
  | _, .bl _ => true
  | _, .int _ => true
  | _, .str s => s.all (· < 1114112)
  | 0, .tup _ => false
  | n + 1, .tup ds => shs n ds
  | 0, .lst _ => false
  | n + 1, .lst ds => shs n ds
  | _, .scr _ => false
  | _, .ref _ => false
  | _, .ty _ => false
def shs : Nat → List D → Bool
  | _, [] => true
  | n, d :: ds => sh n d && shs n ds
end
mutual
theorem sh_dp {K : PySem.W.Frag} {Γ : Gp} {H : Hp} : ∀ {n : Nat} {d : D} {v : V}, sh n d = true → Rel Γ H d v → Dp K H v (py d)
  | _, _, _, _, .non => .non
  | _, _, _, _, .bl b => .bl b
  | _, _, _, _, .int i => .int i
  | _, _, _, _, .str l => .str _
  | n + 1, _, _, h, .tup hH _ rs => .tup (.inl (.inl hH)) (shs_dp (n := n) h rs)
  | n + 1, _, _, h, .lst hH _ rs => .lst (.inl (.inl hH)) (shs_dp (n := n) h rs)
  | _, _, _, h, .scr _ _ => by cases h
  | _, _, _, h, .ref _ => by cases h
  | _, _, _, h, .ty _ => by cases h
theorem shs_dp {K : PySem.W.Frag} {Γ : Gp} {H : Hp} : ∀ {n : Nat} {ds : List D} {vs : List V}, shs n ds = true → Rels Γ H ds vs → DpAll K H vs (pys ds)
  | _, _, _, _, .nil => .nil
  | n, d :: ds, _, h, .cons a b => by
    have h' : (sh n d && shs n ds) = true := h
    rw [Bool.and_eq_true] at h'
    exact .cons (sh_dp h'.1 a) (shs_dp h'.2 b)
end
mutual
theorem sh_lay : ∀ {n : Nat} {d : D}, sh n d = true → (py d).canLay0 = true ∧ (py d).depth ≤ n
  | _, .non, _ => ⟨rfl, Nat.zero_le _⟩
  | _, .bl _, _ => ⟨rfl, Nat.zero_le _⟩
  | _, .int _, _ => ⟨rfl, Nat.zero_le _⟩
  | _, .str s, h => ⟨by
      have h' : s.all (· < 1114112) = true := by simpa [sh] using h
      show PyData.strOk (St s) = true
      unfold PyData.strOk
      simpa using h', Nat.zero_le _⟩
  | 0, .tup _, h => by simp [sh] at h
  | n + 1, .tup ds, h => by
      obtain ⟨a, b⟩ := shs_lay (n := n) (ds := ds) (by simpa [sh] using h)
      exact ⟨a, Nat.succ_le_succ b⟩
  | 0, .lst _, h => by simp [sh] at h
  | n + 1, .lst ds, h => by
      obtain ⟨a, b⟩ := shs_lay (n := n) (ds := ds) (by simpa [sh] using h)
      exact ⟨a, Nat.succ_le_succ b⟩
  | _, .scr _, h => by simp [sh] at h
  | _, .ref _, h => by simp [sh] at h
  | _, .ty _, h => by simp [sh] at h
theorem shs_lay : ∀ {n : Nat} {ds : List D}, shs n ds = true → PyData.canLayAll0 (pys ds) = true ∧ PyData.depthAll (pys ds) ≤ n
  | _, [], _ => ⟨rfl, Nat.zero_le _⟩
  | n, d :: ds, h => by
    have h' : (sh n d && shs n ds) = true := by simpa [shs] using h
    rw [Bool.and_eq_true] at h'
    obtain ⟨a, b⟩ := sh_lay h'.1
    obtain ⟨a2, b2⟩ := shs_lay h'.2
    refine ⟨?_, Nat.max_le.mpr ⟨b, b2⟩⟩
    show ((py d).canLay0 && PyData.canLayAll0 (pys ds)) = true
    rw [a, a2]
    rfl
end
theorem sh_shaped {d : D} (h : sh 60 d = true) : SeqAt.shaped (py d) = true := by
  obtain ⟨a, b⟩ := sh_lay h
  unfold SeqAt.shaped
  rw [a, decide_eq_true (by omega)]
  rfl
/-- == of trees -/
def eqD (x y : D) : Bool := PyData.eqv (py x) (py y)
/-- an owned list is looked through -/
def res (G : Gp) : D → D
  | .ref p => match G p with
    | some (.lst ds) => .lst ds
    | _ => .ref p
  | d => d
def lstOf (G : Gp) : D → Option (List D)
  | .lst ds => some ds
  | .ref p => match G p with
    | some (.lst ds) => some ds
    | _ => none
  | _ => none
section
variable {P : Pv} {G : Gp} {H : Hp} {K : PySem.W.Frag}
theorem lst_rel {d : D} {v : V} {ds : List D} (w : Wd P G H) (r : Rl P G H d v) (e : lstOf G d = some ds) : ∃ a us, v = .ref a ∧ H a = some (.lst us) ∧ Rls P G H ds us := by
  cases d with
  | lst es =>
    cases e
    cases r with
    | lst hH hG rs => exact ⟨_, _, rfl, hH, rs⟩
  | ref p =>
    cases r
    have e' : (match G p with
      | some (.lst ds) => some ds
      | _ => none) = some ds := e
    cases q : G p with
    | none => rw [q] at e'; cases e'
    | some o =>
      rw [q] at e'
      cases o with
      | lst es =>
        cases e'
        obtain ⟨us, h1, h2⟩ := w.at q
        exact ⟨p, us, rfl, h1, h2⟩
      | _ => cases e'
  | _ => cases e
theorem res_dp {n : Nat} {d : D} {v : V} (w : Wd P G H) (r : Rl P G H d v) (h : sh n (res G d) = true) : Dp K H v (py (res G d)) := by
  cases d with
  | ref p =>
    cases r
    cases q : G p with
    | none =>
      have e : res G (.ref p) = .ref p := by show (match G p with | some (.lst ds) => D.lst ds | _ => D.ref p) = _; rw [q]
      rw [e] at h
      cases n <;> simp [sh] at h
    | some o =>
      cases o with
      | lst es =>
        have e : res G (.ref p) = .lst es := by show (match G p with | some (.lst ds) => D.lst ds | _ => D.ref p) = _; rw [q]
        rw [e] at h ⊢
        obtain ⟨us, h1, h2⟩ := w.at q
        cases n with
        | zero => simp [sh] at h
        | succ n => exact .lst (.inl (.inl h1)) (shs_dp (n := n) (by simpa [sh] using h) h2)
      | _ =>
        have e : res G (.ref p) = .ref p := by show (match G p with | some (.lst ds) => D.lst ds | _ => D.ref p) = _; rw [q]
        rw [e] at h
        cases n <;> simp [sh] at h
  | _ => exact sh_dp h r
end

section
variable {X : Cx}
/-- a rule by values from one of the base -/
theorem opd_of {f : Value → Value → Sem Value} {r' : R2} {r : R2d} (h : OpR X f r') (i : ∀ P dx dy G Qd x y H Q, Wd P G H → Rl P G H dx x → Rl P G H dy y → r dx dy G Qd → KOk P G H Qd Q → r' x y H Q) : OpD X f r :=
  OpR.imp h fun x y H Q ⟨P, dx, dy, G, Qd, w, rx, ry, q, k⟩ => i P dx dy G Qd x y H Q w rx ry q k
/-- the bound of numbers that are multiplied -/
def BB : Nat := 10 ^ 400
theorem BB_lt : BB < 2 ^ 1400 := by unfold BB; decide +kernel
/-! ### + - * // % ** -/
def oAdd : R2d := fun x y G Q => match x, y with
  | .int i, .int j => Q (.int (i + j)) G
  | .str a, .str b => a.length + b.length ≤ 10000000 ∧ Q (.str (a ++ b)) G
  | .tup a, .tup b => a.length + b.length ≤ 10000000 ∧ Q (.tup (a ++ b)) G
  | x, y => match lstOf G x, lstOf G y with
    | some a, some b => a.length + b.length ≤ 10000000 ∧ Q (.lst (a ++ b)) G
    | _, _ => False
theorem St_append (a b : List Nat) : St a ++ St b = St (a ++ b) := by
  have e : ∀ x y : Str, x ++ y = ⟨x.cps ++ y.cps⟩ := fun _ _ => rfl
  rw [e]
  simp
theorem St_length (a : List Nat) : (St a).length = a.length := by simp [Str.length]
theorem opAdd : OpD X (binaryOp .Add) oAdd := by
  refine opd_of (((op_add (X := X)).or op_add_str).or ((op_catA (X := X)).or op_cat)) fun P dx dy G Qd x y H Q w rx ry q k => ?_
  have lists : ∀ {dx dy : D} {a b : List D} {x y : V}, Rl P G H dx x → Rl P G H dy y → lstOf G dx = some a → lstOf G dy = some b → (a.length + b.length ≤ 10000000 ∧ Qd (.lst (a ++ b)) G) → rCat x y H Q := fun rx ry e1 e2 q => by
    obtain ⟨l, us, rfl, h1, r1⟩ := lst_rel w rx e1
    obtain ⟨m, ws, rfl, h2, r2⟩ := lst_rel w ry e2
    refine ⟨l, m, us, ws, rfl, rfl, h1, h2, by rw [← r1.len, ← r2.len]; exact lim_le q.1, fun p hp => k _ _ q.2 _ _ ?_ (w.new hp) (Sp'.new w hp)⟩
    exact .lst upd_same (w.ofree hp) ((r1.stp (Stp.new hp)).append (r2.stp (Stp.new hp)))
  have gen : (match lstOf G dx, lstOf G dy with
    | some a, some b => a.length + b.length ≤ 10000000 ∧ Qd (.lst (a ++ b)) G
    | _, _ => False) → rCat x y H Q := fun q => by
    cases e1 : lstOf G dx with
    | none => rw [e1] at q; exact q.elim
    | some a =>
      cases e2 : lstOf G dy with
      | none => rw [e1, e2] at q; exact q.elim
      | some b => rw [e1, e2] at q; exact lists rx ry e1 e2 q
  cases dx with
  | int i => cases dy with
    | int j =>
      cases rx
      cases ry
      exact .inl (.inl ⟨i, j, rfl, rfl, k _ _ q _ _ (.int _) w Sp'.refl⟩)
    | _ => exact q.elim
  | str a => cases dy with
    | str b =>
      cases rx
      cases ry
      refine .inl (.inr ⟨_, _, rfl, rfl, by rw [St_length, St_length]; exact lim_le q.1, ?_⟩)
      rw [St_append]
      exact k _ _ q.2 _ _ (.str _) w Sp'.refl
    | _ => exact q.elim
  | tup a => cases dy with
    | tup b =>
      cases rx with
      | tup hH hG rs => cases ry with
        | tup hH2 hG2 rs2 =>
          refine .inr (.inl ⟨_, _, _, _, rfl, rfl, .inl (.inl hH), .inl (.inl hH2), by rw [← rs.len, ← rs2.len]; exact lim_le q.1, fun e => ?_, fun _ e => ?_, fun _ _ p hp => ?_⟩)
          · subst e
            cases rs
            exact k _ _ q.2 _ _ (.tup hH2 hG2 rs2) w Sp'.refl
          · subst e
            cases rs2
            have q2 : Qd (.tup (a ++ [])) G := q.2
            rw [List.append_nil] at q2
            exact k _ _ q2 _ _ (.tup hH hG rs) w Sp'.refl
          · exact k _ _ q.2 _ _ (.tup upd_same (w.ofree hp) ((rs.stp (Stp.new hp)).append (rs2.stp (Stp.new hp)))) (w.new hp) (Sp'.new w hp)
    | _ => exact q.elim
  | lst a => exact .inr (.inr (gen (by cases dy <;> exact q)))
  | ref a => exact .inr (.inr (gen (by cases dy <;> exact q)))
  | _ => cases dy <;> exact q.elim
/-- of two numbers -/
def oI (C : Int → Int → Prop) (g : Int → Int → Int) : R2d := fun x y G Q => match x, y with
  | .int i, .int j => C i j ∧ Q (.int (g i j)) G
  | _, _ => False
theorem opII {f : Value → Value → Sem Value} {C C' : Int → Int → Prop} {g g' : Int → Int → Int} (h : OpR X f (rI C' fun i j => .int (g' i j))) (hc : ∀ i j, C i j → C' i j ∧ g' i j = g i j) : OpD X f (oI C g) :=
  opd_of h fun P dx dy G Qd x y H Q w rx ry q k => by
    cases dx with
    | int i => cases dy with
      | int j =>
        cases rx
        cases ry
        obtain ⟨h1, h2⟩ := hc i j q.1
        exact ⟨i, j, rfl, rfl, h1, by show Q (V.int (g' i j)) H; rw [h2]; exact k _ _ q.2 _ _ (.int _) w Sp'.refl⟩
      | _ => exact q.elim
    | _ => exact q.elim
def oSub : R2d := fun x y G Q => match x, y with
  | .int i, .int j => Q (.int (i - j)) G
  | _, _ => False
theorem opSub : OpD X (binaryOp .Sub) oSub :=
  opd_of op_sub fun P dx dy G Qd x y H Q w rx ry q k => by
    cases dx with
    | int i => cases dy with
      | int j =>
        cases rx
        cases ry
        exact ⟨i, j, rfl, rfl, k _ _ q _ _ (.int _) w Sp'.refl⟩
      | _ => exact q.elim
    | _ => exact q.elim
def oMod : R2d := oI (fun _ j => 0 < j) fun i j => i % j
theorem opMod : OpD X (binaryOp .Mod) oMod := opII op_mod fun i j h => ⟨h, rfl⟩
def oDiv : R2d := oI (fun _ j => 0 < j ∧ j.natAbs < BB) fun i j => i / j
theorem opDiv : OpD X (binaryOp .FloorDiv) oDiv := opII op_fdivW fun i j h => ⟨wide_div h.1 (Nat.lt_trans h.2 BB_lt) (by decide) (by decide), rfl⟩
def CPowB (i j : Int) : Prop := 0 ≤ j ∧ j ≤ 1000 ∧ i.natAbs < BB
def oPow : R2d := oI CPowB fun i j => i ^ j.toNat
theorem opPow : OpD X (binaryOp .Pow) oPow := by
  refine opII (C' := CPowB) (L2.opI fun i j t u s Q E hc q => pow_int hc.1 ?_ q) fun i j h => ⟨h, rfl⟩
  have h1 := PyProof.Rows.intBits_le (Nat.lt_trans hc.2.2 BB_lt)
  have h2 := hc.2.1
  have h3 : (Builtin.Int.intBits i : Int) ≤ 1400 := by omega
  have h4 : (Builtin.Int.intBits i : Int) * j ≤ 1400 * 1000 := Int.mul_le_mul h3 h2 hc.1 (by omega)
  exact Int.le_trans h4 (by decide)
/-! ### * -/
def rep (k : Nat) (l : List α) : List α := (List.replicate k l).flatten
theorem St_rep (a : List Nat) (k : Nat) : (⟨(List.replicate k (St a).cps).foldl (· ++ ·) #[]⟩ : Str) = St (rep k a) := by
  have h : ∀ (k : Nat) (acc : List Nat), (List.replicate k a.toArray).foldl (· ++ ·) acc.toArray = (acc ++ (List.replicate k a).flatten).toArray := by
    intro k
    induction k with
    | zero => intro acc; simp
    | succ k ih =>
      intro acc
      rw [List.replicate_succ, List.foldl_cons, List.replicate_succ, List.flatten_cons]
      have e : acc.toArray ++ a.toArray = (acc ++ a).toArray := by simp
      rw [e, ih, List.append_assoc]
  have e := h k []
  unfold rep
  rw [List.nil_append] at e
  exact congrArg Str.mk e
theorem rep_len (k : Nat) (l : List α) : (rep k l).length = k * l.length := by
  unfold rep
  induction k with
  | zero => simp
  | succ k ih => rw [List.replicate_succ, List.flatten_cons, List.length_append, ih, Nat.succ_mul, Nat.add_comm]
def oMul : R2d := fun x y G Q => match x, y with
  | .int i, .int j => (i.natAbs < BB ∧ j.natAbs < BB) ∧ Q (.int (i * j)) G
  | .str a, .int k => (k < 1000000 ∧ a.length * k.toNat ≤ 10000000 ∧ -1000000 < k) ∧ Q (.str (rep k.toNat a)) G
  | .lst a, .int k => (k < 1000000 ∧ a.length * k.toNat ≤ 10000000 ∧ -1000000 < k) ∧ Q (.lst (rep k.toNat a)) G
  | .tup a, .int k => (a ≠ [] ∧ 2 ≤ k ∧ k ≤ 1000 ∧ a.length ≤ 1000) ∧ Q (.tup (rep k.toNat a)) G
  | _, _ => False
theorem Rels.rep {Γ : Gp} {H : Hp} {ds : List D} {us : List V} (r : Rels Γ H ds us) : ∀ k, Rels Γ H (rep k ds) (rep k us) := by
  intro k
  unfold Y.rep
  induction k with
  | zero => exact .nil
  | succ k ih => rw [List.replicate_succ, List.flatten_cons, List.replicate_succ, List.flatten_cons]; exact r.append ih
theorem op_mul_str : OpR X (binaryOp .Mult) (fun x y H Q => ∃ (a : List Nat) (k : Int), x = .str (St a) ∧ y = .int k ∧ (k < 1000000 ∧ a.length * k.toNat ≤ 10000000 ∧ -1000000 < k) ∧ Q (.str (St (rep k.toNat a))) H) := by
  intro pins s σ H x y v u Q I rx ry h
  obtain ⟨a, k, rfl, rfl, ⟨b1, b2, b3⟩, q⟩ := h
  obtain ⟨t, rfl⟩ := rx
  obtain ⟨t', rfl⟩ := ry
  have l1 : (St a).length = a.length := St_length a
  refine PySem.P.mul_str (by rw [decide_eq_false (by omega), decide_eq_false (by omega)]; rfl) (fun h1 h2 => ?_) (fun h1 h2 => ?_) ?_
  · rw [l1]
    have e1 : a.length ≤ a.length * k.toNat := Nat.le_mul_of_pos_right _ (by omega)
    have e2 : (10000000 : Int) ≤ (2 ^ 63 - 1) / k := by
      apply (Int.le_ediv_iff_mul_le (by omega)).mpr
      omega
    omega
  · rw [l1]
    unfold Builtin.Str.tooLong
    exact decide_eq_false (Nat.not_lt.mpr (lim_le b2))
  · by_cases h1 : k < 1
    · rw [if_pos h1]
      have e : k.toNat = 0 := by omega
      rw [e] at q
      exact ⟨by decide, .str _, H, I.tok _, ⟨_, rfl⟩, q⟩
    · rw [if_neg h1]
      by_cases h2 : (k == 1 || (St a).length == 0) = true
      · rw [if_pos h2]
        have e : St (rep k.toNat a) = St a := by
          rw [l1, Bool.or_eq_true] at h2
          rcases h2 with h2 | h2
          · have e : k = 1 := by simpa using h2
            subst e
            show St (rep 1 a) = St a
            unfold rep
            simp
          · have e : a = [] := by simpa using h2
            subst e
            have e2 : rep k.toNat ([] : List Nat) = [] := List.eq_nil_of_length_eq_zero (by rw [rep_len]; simp)
            rw [e2]
        rw [e] at q
        exact ⟨.str _, H, I, ⟨_, rfl⟩, q⟩
      · rw [if_neg h2, St_rep]
        refine ⟨?_, .str _, H, I.tok _, ⟨_, rfl⟩, q⟩
        first
          | (rw [St_length, rep_len, Nat.mul_comm]; exact lim_le b2)
          | (show (St (rep k.toNat a)).length ≤ _; rw [St_length, rep_len, Nat.mul_comm]; exact lim_le b2)
theorem opMul : OpD X (binaryOp .Mult) oMul := by
  refine opd_of (((op_mulX (X := X)).or op_mul_str).or ((op_rep (X := X)).or op_repT)) fun P dx dy G Qd x y H Q w rx ry q k => ?_
  cases dy with
  | int j =>
    cases ry
    cases dx with
    | int i =>
      cases rx
      obtain ⟨⟨h1, h2⟩, q⟩ := q
      exact .inl (.inl ⟨i, j, rfl, rfl, mulx_ok (Nat.lt_trans h1 BB_lt) (Nat.lt_trans h2 BB_lt) (by decide), k _ _ q _ _ (.int _) w Sp'.refl⟩)
    | str a =>
      cases rx
      exact .inl (.inr ⟨a, j, rfl, rfl, q.1, k _ _ q.2 _ _ (.str _) w Sp'.refl⟩)
    | lst a =>
      obtain ⟨⟨b1, b2, b3⟩, q⟩ := q
      cases rx with
      | lst hH hG rs =>
        refine .inr (.inl ⟨_, j, _, rfl, rfl, hH, by omega, by omega, by rw [← rs.len]; exact lim_le b2, fun p hp => ?_⟩)
        exact k _ _ q _ _ (.lst upd_same (w.ofree hp) ((rs.stp (Stp.new hp)).rep _)) (w.new hp) (Sp'.new w hp)
    | tup a =>
      obtain ⟨⟨b0, b1, b2, b3⟩, q⟩ := q
      cases rx with
      | tup hH hG rs =>
        refine .inr (.inr ⟨_, j, _, rfl, rfl, .inl (.inl hH), fun e => b0 ?_, b1, b2, by rw [← rs.len]; exact b3, fun p hp => ?_⟩)
        · subst e
          cases rs
          rfl
        · exact k _ _ q _ _ (.tup upd_same (w.ofree hp) ((rs.stp (Stp.new hp)).rep _)) (w.new hp) (Sp'.new w hp)
    | _ => exact q.elim
  | _ => cases dx <;> exact q.elim

/-! ### == != -/
def oEq : R2d := fun x y G Q => match x, y with
  | .str a, .str b => Q (.bl (decide (a = b))) G
  | .int i, .int j => Q (.bl (decide (i = j))) G
  | x, y => (sh 60 (res G x) = true ∧ sh 60 (res G y) = true) ∧ Q (.bl (eqD (res G x) (res G y))) G
def oNe : R2d := fun x y G Q => match x, y with
  | .str a, .str b => Q (.bl (!decide (a = b))) G
  | .int i, .int j => Q (.bl (!decide (i = j))) G
  | x, y => (sh 60 (res G x) = true ∧ sh 60 (res G y) = true) ∧ Q (.bl (!eqD (res G x) (res G y))) G
theorem dec_St {a b : List Nat} : decide (V.str (St a) = V.str (St b)) = decide (a = b) := by
  by_cases e : a = b
  · subst e; simp
  · have h : ¬ V.str (St a) = V.str (St b) := fun z => e (St_inj (V.str.inj z))
    rw [decide_eq_false e, decide_eq_false h]
theorem dec_I {a b : Int} : decide (V.int a = V.int b) = decide (a = b) := by
  by_cases e : a = b
  · subst e; simp
  · have h : ¬ V.int a = V.int b := fun z => e (V.int.inj z)
    rw [decide_eq_false e, decide_eq_false h]
theorem opEq (hu : X.A.units + 64 < cLine) : OpD X (compareOp .Eq) oEq := by
  refine opd_of ((op_eq (X := X)).or (op_eqD hu)) fun P dx dy G Qd x y H Q w rx ry q k => ?_
  have gen : (sh 60 (res G dx) = true ∧ sh 60 (res G dy) = true) ∧ Qd (.bl (eqD (res G dx) (res G dy))) G → rEqD X.K x y H Q := fun ⟨⟨h1, h2⟩, q⟩ =>
    ⟨_, _, res_dp w rx h1, res_dp w ry h2, sh_shaped h1, sh_shaped h2, k _ _ q _ _ (.bl _) w Sp'.refl⟩
  cases dx with
  | str a => cases dy with
    | str b =>
      cases rx
      cases ry
      exact .inl ⟨rfl, by rw [dec_St]; exact k _ _ q _ _ (.bl _) w Sp'.refl⟩
    | _ => exact .inr (gen q)
  | int a => cases dy with
    | int b =>
      cases rx
      cases ry
      exact .inl ⟨rfl, by rw [dec_I]; exact k _ _ q _ _ (.bl _) w Sp'.refl⟩
    | _ => exact .inr (gen q)
  | _ => exact .inr (gen (by cases dy <;> exact q))
theorem opNe (hu : X.A.units + 64 < cLine) : OpD X (compareOp .NotEq) oNe := by
  refine opd_of ((op_ne (X := X)).or (op_neD hu)) fun P dx dy G Qd x y H Q w rx ry q k => ?_
  have gen : (sh 60 (res G dx) = true ∧ sh 60 (res G dy) = true) ∧ Qd (.bl (!eqD (res G dx) (res G dy))) G → rNeD X.K x y H Q := fun ⟨⟨h1, h2⟩, q⟩ =>
    ⟨_, _, res_dp w rx h1, res_dp w ry h2, sh_shaped h1, sh_shaped h2, k _ _ q _ _ (.bl _) w Sp'.refl⟩
  cases dx with
  | str a => cases dy with
    | str b =>
      cases rx
      cases ry
      exact .inl ⟨rfl, by rw [dec_St]; exact k _ _ q _ _ (.bl _) w Sp'.refl⟩
    | _ => exact .inr (gen q)
  | int a => cases dy with
    | int b =>
      cases rx
      cases ry
      exact .inl ⟨rfl, by rw [dec_I]; exact k _ _ q _ _ (.bl _) w Sp'.refl⟩
    | _ => exact .inr (gen q)
  | _ => exact .inr (gen (by cases dy <;> exact q))
/-! ### < <= > >=: numbers, texts -/
def oCmp (f : Int → Int → Bool) (g : List Nat → List Nat → Bool) : R2d := fun x y G Q => match x, y with
  | .int i, .int j => Q (.bl (f i j)) G
  | .str a, .str b => Q (.bl (g a b)) G
  | _, _ => False
theorem opCmp {f : Value → Value → Sem Value} {p : Int → Int → Bool} {g : List Nat → List Nat → Bool} (h : OpR X f (rI0 fun i j => .bl (p i j))) (h' : OpR X f (fun x y H Q => ∃ i j, x = .str i ∧ y = .str j ∧ Q (.bl (g i.cps.toList j.cps.toList)) H)) : OpD X f (oCmp p g) :=
  opd_of (h.or h') fun P dx dy G Qd x y H Q w rx ry q k => by
    cases dx with
    | int i => cases dy with
      | int j =>
        cases rx
        cases ry
        exact .inl ⟨i, j, rfl, rfl, k _ _ q _ _ (.bl _) w Sp'.refl⟩
      | _ => exact q.elim
    | str i => cases dy with
      | str j =>
        cases rx
        cases ry
        exact .inr ⟨_, _, rfl, rfl, k _ _ q _ _ (.bl _) w Sp'.refl⟩
      | _ => exact q.elim
    | _ => exact q.elim
def oLt : R2d := oCmp (fun i j => decide (i < j)) fun a b => decide (a < b)
def oLe : R2d := oCmp (fun i j => decide (i ≤ j)) fun a b => !decide (b < a)
def oGt : R2d := oCmp (fun i j => decide (j < i)) fun a b => decide (b < a)
def oGe : R2d := oCmp (fun i j => decide (j ≤ i)) fun a b => !decide (a < b)
theorem opLt : OpD X (compareOp .Lt) oLt := opCmp op_lt op_lt_str
theorem opLe : OpD X (compareOp .LtE) oLe := opCmp op_le op_le_str
theorem opGt : OpD X (compareOp .Gt) oGt := opCmp op_gt op_gt_str
theorem opGe : OpD X (compareOp .GtE) oGe := opCmp op_ge op_ge_str
/-! ### is None -/
def isNon : D → Bool
  | .non => true
  | _ => false
def oIs : R2d := fun x y G Q => match y with
  | .non => Q (.bl (isNon x)) G
  | _ => False
def oIsNot : R2d := fun x y G Q => match y with
  | .non => Q (.bl (!isNon x)) G
  | _ => False
theorem isNon_rel {Γ : Gp} {H : Hp} {d : D} {v : V} (r : Rel Γ H d v) : decide (v = V.non) = isNon d := by
  cases r <;> first | rfl | simp [isNon]
theorem opIs : OpD X (compareOp .Is) oIs :=
  opd_of op_isN fun P dx dy G Qd x y H Q w rx ry q k => by
    cases dy with
    | non =>
      cases ry
      exact ⟨rfl, by rw [isNon_rel rx]; exact k _ _ q _ _ (.bl _) w Sp'.refl⟩
    | _ => exact q.elim
theorem opIsNot : OpD X (compareOp .IsNot) oIsNot :=
  opd_of op_notN fun P dx dy G Qd x y H Q w rx ry q k => by
    cases dy with
    | non =>
      cases ry
      exact ⟨rfl, by rw [isNon_rel rx]; exact k _ _ q _ _ (.bl _) w Sp'.refl⟩
    | _ => exact q.elim
/-! ### in -/
def flatD : D → Bool
  | .non => true
  | .bl _ => true
  | .int _ => true
  | .str _ => true
  | _ => false
/-- x in y: one sign in a text, a key in an owned dict, a flat thing in a row of flat things -/
def oInB (x y : D) (G : Gp) (Q : Bool → Prop) : Prop := match y with
  | .str b => match x with
    | .str [c] => Q (decide (c ∈ b))
    | _ => False
  | .tup ds => (flatD x = true ∧ ds.all flatD = true) ∧ Q (ds.any fun d => eqD d x)
  | .ref p => match G p with
    | some (.dic kvs) => match keyOf x with
      | some k => Q (dlook kvs k).isSome
      | none => False
    | some (.lst ds) => (flatD x = true ∧ ds.all flatD = true) ∧ Q (ds.any fun d => eqD d x)
    | _ => False
  | .lst ds => (flatD x = true ∧ ds.all flatD = true) ∧ Q (ds.any fun d => eqD d x)
  | _ => False
def oIn : R2d := fun x y G Q => oInB x y G fun b => Q (.bl b) G
def oNotIn : R2d := fun x y G Q => oInB x y G fun b => Q (.bl (!b)) G
theorem flat_rel {Γ : Gp} {H : Hp} {d : D} {v : V} (r : Rel Γ H d v) (h : flatD d = true) : flatV v = true := by
  cases r <;> first | rfl | (cases h; done)
theorem eq_rel {Γ : Gp} {H : Hp} {d e : D} {v u : V} (r : Rel Γ H d v) (h : flatD d = true) (r' : Rel Γ H e u) (h' : flatD e = true) : eqV v u = eqD d e := by
  cases r <;> first | (cases h; done) | (cases r' <;> first | (cases h'; done) | rfl)
theorem any_rel {Γ : Gp} {H : Hp} {x : D} {v : V} (r : Rel Γ H x v) (h : flatD x = true) : ∀ {ds : List D} {us : List V}, Rels Γ H ds us → ds.all flatD = true → inV v us = (ds.any fun d => eqD d x) ∧ us.all flatV = true
  | _, _, .nil, _ => ⟨rfl, rfl⟩
  | d :: ds, u :: us, .cons a b, h2 => by
    rw [List.all_cons, Bool.and_eq_true] at h2
    obtain ⟨i1, i2⟩ := any_rel r h b h2.2
    have i1' : (us.any fun y => eqV y v) = (ds.any fun d => eqD d x) := i1
    refine ⟨?_, by rw [List.all_cons, flat_rel a h2.1, i2]; rfl⟩
    show ((u :: us).any fun y => eqV y v) = _
    rw [List.any_cons, List.any_cons, eq_rel a h2.1 r h, i1']
theorem op_in_d (hu : X.A.units + 1 < cLine) : OpR X (compareOp .In) (fun x y H Q => ∃ a o, y = .ref a ∧ DGet H a x o ∧ Q (.bl o.isSome) H) := by
  intro pins s σ H x y v u Q I rx ry h
  obtain ⟨a, o, rfl, g, q⟩ := h
  cases ry
  exact d_in hu I g rx fun s' I' => ⟨.bl _, H, I', rfl, q⟩
theorem op_notin_d (hu : X.A.units + 1 < cLine) : OpR X (compareOp .NotIn) (fun x y H Q => ∃ a o, y = .ref a ∧ DGet H a x o ∧ Q (.bl (!o.isSome)) H) := by
  intro pins s σ H x y v u Q I rx ry h
  obtain ⟨a, o, rfl, g, q⟩ := h
  cases ry
  exact d_notIn hu I g rx fun s' I' => ⟨.bl _, H, I', rfl, q⟩
/-- what stands behind `in` -/
theorem inB_run {P : Pv} {G : Gp} {H : Hp} {dx dy : D} {x y : V} {Q : Bool → Prop} {C : Prop} (w : Wd P G H) (rx : Rl P G H dx x) (ry : Rl P G H dy y) (q : oInB dx dy G Q)
    (h1 : ∀ c b, x = .str ⟨#[c]⟩ → y = .str (St b) → Q (decide (c ∈ b)) → C)
    (h2 : ∀ p us ds, y = .ref p → (SqL X.K H p us ∨ SqT X.K H p us) → flatV x = true → us.all flatV = true → inV x us = ds → Q ds → C)
    (h3 : ∀ a o, y = .ref a → DGet H a x o → Q o.isSome → C) : C := by
  cases dy with
  | str b => cases dx with
    | str l =>
      match l, rx, q with
      | [c], rx, q =>
        cases rx
        cases ry
        exact h1 c b rfl rfl q
    | _ => exact q.elim
  | tup ds => cases ry with
    | tup hH hG rs =>
      obtain ⟨⟨f1, f2⟩, q⟩ := q
      obtain ⟨e1, e2⟩ := any_rel rx f1 rs f2
      exact h2 _ _ _ rfl (.inr (.inl (.inl hH))) (flat_rel rx f1) e2 e1 q
  | lst ds => cases ry with
    | lst hH hG rs =>
      obtain ⟨⟨f1, f2⟩, q⟩ := q
      obtain ⟨e1, e2⟩ := any_rel rx f1 rs f2
      exact h2 _ _ _ rfl (.inl (.inl (.inl hH))) (flat_rel rx f1) e2 e1 q
  | ref p =>
    cases ry
    have q' : (match G p with
      | some (.dic kvs) => match keyOf dx with
        | some k => Q (dlook kvs k).isSome
        | none => False
      | some (.lst ds) => (flatD dx = true ∧ ds.all flatD = true) ∧ Q (ds.any fun d => eqD d dx)
      | _ => False) := q
    cases e : G p with
    | none => rw [e] at q'; exact q'.elim
    | some o =>
      rw [e] at q'
      cases o with
      | dic kvs =>
        obtain ⟨ws, hH, rs⟩ := w.at e
        cases ek : keyOf dx with
        | none => simp only [ek] at q'
        | some key =>
          simp only [ek] at q'
          have es := dlook_some (k := key) rs
          refine h3 p (valV ws (kS key)) rfl ?_ (by rw [es]; exact q')
          rw [keyOf_rel ek rx]
          exact DGet.k hH
      | lst ds =>
        obtain ⟨us, hH, rs⟩ := w.at e
        obtain ⟨⟨f1, f2⟩, q'⟩ := q'
        obtain ⟨e1, e2⟩ := any_rel rx f1 rs f2
        exact h2 p us _ rfl (.inl (.inl (.inl hH))) (flat_rel rx f1) e2 e1 q'
      | _ => exact q'.elim
  | _ => exact q.elim
theorem opIn (hu : X.A.units + 1 < cLine) : OpD X (compareOp .In) oIn :=
  opd_of ((op_in_sign (X := X)).or ((op_in_seq (X := X)).or (op_in_d hu))) fun P dx dy G Qd x y H Q w rx ry q k =>
    inB_run w rx ry q (fun c b e1 e2 q => .inl ⟨c, _, e1, e2, k _ _ q _ _ (.bl _) w Sp'.refl⟩)
      (fun p us ds e1 e2 f1 f2 e3 q => .inr (.inl ⟨p, us, e1, e2, f1, f2, by show Q (V.bl (inV x us)) H; rw [e3]; exact k _ _ q _ _ (.bl _) w Sp'.refl⟩))
      (fun a o e1 g q => .inr (.inr ⟨a, o, e1, g, k _ _ q _ _ (.bl _) w Sp'.refl⟩))
theorem opNotIn (hu : X.A.units + 1 < cLine) : OpD X (compareOp .NotIn) oNotIn :=
  opd_of ((op_notIn_sign (X := X)).or ((op_notIn_seq (X := X)).or (op_notin_d hu))) fun P dx dy G Qd x y H Q w rx ry q k =>
    inB_run w rx ry q (fun c b e1 e2 q => .inl ⟨c, _, e1, e2, k _ _ q _ _ (.bl _) w Sp'.refl⟩)
      (fun p us ds e1 e2 f1 f2 e3 q => .inr (.inl ⟨p, us, e1, e2, f1, f2, by show Q (V.bl (!inV x us)) H; rw [e3]; exact k _ _ q _ _ (.bl _) w Sp'.refl⟩))
      (fun a o e1 g q => .inr (.inr ⟨a, o, e1, g, k _ _ q _ _ (.bl _) w Sp'.refl⟩))
/-! ### - x -/
def oNeg : R1d := fun x G Q => match x with
  | .int i => Q (.int (-i)) G
  | _ => False
end
end Y
/-! Y6: subscripts, slices, stores, attributes, methods and calls of what is built in. -/
namespace Y
open PySem PySem.Spec PyProof.Rows L2

/-- a list, owned or frozen, or the script -/
def seqL (G : Gp) : D → Option (List D)
  | .lst ds => some ds
  | .scr ns => some (ns.map .int)
  | .ref p => match G p with
    | some (.lst ds) => some ds
    | _ => none
  | _ => none
/-- .. or a tuple -/
def seqR (G : Gp) : D → Option (List D)
  | .tup ds => some ds
  | d => seqL G d
section
variable {P : Pv} {G : Gp} {H : Hp} {K : PySem.W.Frag}
theorem seqL_rel {d : D} {v : V} {ds : List D} (w : Wd P G H) (r : Rl P G H d v) (e : seqL G d = some ds) : ∃ a us, v = .ref a ∧ SqL K H a us ∧ Rls P G H ds us := by
  cases d with
  | lst es =>
    cases e
    cases r with
    | lst hH hG rs => exact ⟨_, _, rfl, .inl (.inl hH), rs⟩
  | scr ns =>
    cases e
    cases r with
    | scr hH hG => exact ⟨_, _, rfl, .inl hH, Rels.of_ints ns⟩
  | ref p =>
    cases r
    have e' : (match G p with
      | some (.lst ds) => some ds
      | _ => none) = some ds := e
    cases q : G p with
    | none => rw [q] at e'; cases e'
    | some o =>
      rw [q] at e'
      cases o with
      | lst es =>
        cases e'
        obtain ⟨us, h1, h2⟩ := w.at q
        exact ⟨p, us, rfl, .inl (.inl h1), h2⟩
      | _ => cases e'
  | _ => cases e
theorem seqR_rel {d : D} {v : V} {ds : List D} (w : Wd P G H) (r : Rl P G H d v) (e : seqR G d = some ds) : ∃ a us, v = .ref a ∧ (SqL K H a us ∨ SqT K H a us) ∧ Rls P G H ds us := by
  cases d with
  | tup es =>
    cases e
    cases r with
    | tup hH hG rs => exact ⟨_, _, rfl, .inr (.inl (.inl hH)), rs⟩
  | lst es => obtain ⟨a, us, h1, h2, h3⟩ := seqL_rel (K := K) w r e; exact ⟨a, us, h1, .inl h2, h3⟩
  | scr es => obtain ⟨a, us, h1, h2, h3⟩ := seqL_rel (K := K) w r e; exact ⟨a, us, h1, .inl h2, h3⟩
  | ref es => obtain ⟨a, us, h1, h2, h3⟩ := seqL_rel (K := K) w r e; exact ⟨a, us, h1, .inl h2, h3⟩
  | _ => cases e
theorem atI_rel {Γ : Gp} {ds : List D} {us : List V} {i : Int} {d : D} (r : Rels Γ H ds us) (e : atI ds i = some d) : ∃ u, atI us i = some u ∧ Rel Γ H d u := by
  unfold atI at e ⊢
  rw [← r.len]
  cases q : ixN ds.length i with
  | none => rw [q] at e; cases e
  | some j =>
    rw [q] at e
    exact r.get e
theorem cut_rel {Γ : Gp} {ds : List D} {us : List V} {lo hi : Option Int} (r : Rels Γ H ds us) : Rels Γ H ((ds.drop (HT.sIx ds.length 0 lo)).take (HT.sIx ds.length ds.length hi - HT.sIx ds.length 0 lo)) (cutV us lo hi) := by
  unfold cutV
  rw [r.len]
  exact (r.drop _).take _
end
/-- what a[lo:hi] takes -/
def cutL {α : Type} (xs : List α) (lo hi : Option Int) : List α := (xs.drop (HT.sIx xs.length 0 lo)).take (HT.sIx xs.length xs.length hi - HT.sIx xs.length 0 lo)

section
variable {X : Cx} {W : WX} {a b e : Expr} {es : List Expr} {ta tb te : DE} {tA : DA} {pos : Pos}
/-! ### a[b] -/
def oIx : R2d := fun x y G Q => match x with
  | .str l => match y with
    | .int i => l.length ≤ 10000000 ∧ ∃ c, atI l i = some c ∧ Q (.str [c]) G
    | _ => False
  | .ref p => match G p with
    | some (.dic kvs) => ∃ k d, keyOf y = some k ∧ dlook kvs k = some d ∧ Q d G
    | some (.lst ds) => match y with
      | .int i => ∃ d, atI ds i = some d ∧ Q d G
      | _ => False
    | _ => False
  | .tup ds => match y with
    | .int i => ∃ d, atI ds i = some d ∧ Q d G
    | _ => False
  | .lst ds => match y with
    | .int i => ∃ d, atI ds i = some d ∧ Q d G
    | _ => False
  | .scr ns => match y with
    | .int i => ∃ n, atI ns i = some n ∧ Q (.int n) G
    | _ => False
  | _ => False
def IxD (X : Cx) (r : R2d) : Prop := IxR X (liftR r)
theorem IxR.imp {r r' : R2} (h : IxR X r) (i : ∀ x y H Q, r' x y H Q → r x y H Q) : IxR X r' := fun vl sl pins s σ H x y v u Q I rx ry q hs => h vl sl pins s σ H x y v u Q I rx ry (i x y H Q q) hs
theorem ix_dict (hu : X.A.units + 1 < cLine) : IxR X (fun x y H Q => ∃ a v, x = .ref a ∧ DGet H a y (some v) ∧ Q v H) := by
  intro vl sl pins s σ H x y v u Q I rx ry ⟨a, w, hx, g, q⟩ hs
  subst hx
  cases rx
  exact tail_any (dict_typeIs I g) PySem.F.slot_dict_getitem.lookup (d_getItem hu I g ry fun w' s' I' r' => ⟨w, H, I', r', q⟩) hs
theorem atI_map {α β : Type} {f : α → β} {l : List α} {i : Int} {c : α} (h : atI l i = some c) : atI (l.map f) i = some (f c) := by
  unfold atI at h ⊢
  rw [List.length_map]
  cases q : ixN l.length i with
  | none => rw [q] at h; cases h
  | some j =>
    rw [q] at h
    show (l.map f)[j]? = _
    have h' : l[j]? = some c := h
    rw [List.getElem?_map, h']
    rfl
theorem ixd (hu : X.A.units + 1 < cLine) : IxD X oIx := by
  refine IxR.imp ((ix_seq (X := X)).or (ix_dict hu)) fun x y H Q ⟨P, dx, dy, G, Qd, w, rx, ry, q, k⟩ => ?_
  have lists : ∀ {ds : List D} {p : Addr} {us : List V} {i : Int}, SqL X.K H p us → Rls P G H ds us → (∃ d, atI ds i = some d ∧ Qd d G) → rIx X.K (.ref p) (.int i) H Q := fun hs rs ⟨d, e, q⟩ => by
    obtain ⟨u, e1, ru⟩ := atI_rel rs e
    exact .inl ⟨_, _, _, _, rfl, rfl, hs, e1, k _ _ q _ _ ru w Sp'.refl⟩
  cases dx with
  | str l =>
    cases dy with
    | int i =>
      cases rx
      cases ry
      obtain ⟨hl, c, e, q⟩ := q
      refine .inl (.inr (.inr ⟨_, _, c, rfl, rfl, by rw [St_length]; exact lim_le hl, by simpa using e, ?_⟩))
      exact k _ _ q _ _ (.str [c]) w Sp'.refl
    | _ => exact q.elim
  | tup ds =>
    cases dy with
    | int i =>
      cases ry
      cases rx with
      | tup hH hG rs =>
        obtain ⟨d, e, q⟩ := q
        obtain ⟨u, e1, ru⟩ := atI_rel rs e
        exact .inl (.inr (.inl ⟨_, _, _, _, rfl, rfl, .inl (.inl hH), e1, k _ _ q _ _ ru w Sp'.refl⟩))
    | _ => exact q.elim
  | lst ds =>
    cases dy with
    | int i =>
      cases ry
      cases rx with
      | lst hH hG rs => exact .inl (lists (.inl (.inl hH)) rs q)
    | _ => exact q.elim
  | scr ns =>
    cases dy with
    | int i =>
      cases ry
      cases rx with
      | scr hH hG =>
        obtain ⟨n, e, q⟩ := q
        exact .inl (lists (.inl hH) (Rels.of_ints ns) ⟨_, atI_map e, q⟩)
    | _ => exact q.elim
  | ref p =>
    cases rx
    cases e : G p with
    | none => simp only [oIx, e] at q
    | some o =>
      cases o with
      | dic kvs =>
        simp only [oIx, e] at q
        obtain ⟨kk, d, ek, el, q⟩ := q
        obtain ⟨ws, hH, rs⟩ := w.at e
        obtain ⟨v, hv, rv⟩ := (dlook_rel (k := kk) rs).1 d el
        refine .inr ⟨p, v, rfl, ?_, k _ _ q _ _ rv w Sp'.refl⟩
        rw [keyOf_rel ek ry, ← hv]
        exact DGet.k hH
      | lst ds =>
        simp only [oIx, e] at q
        obtain ⟨us, hH, rs⟩ := w.at e
        cases dy with
        | int i =>
          cases ry
          exact .inl (lists (.inl (.inl hH)) rs q)
        | _ => exact q.elim
      | _ => simp only [oIx, e] at q
  | _ => exact q.elim
theorem me_ix (hu : X.A.units + 1 < cLine) (ha : ME X W a ta) (hb : ME X W b tb) (hs : PlainIx b) : ME X W (.Subscript a b pos) (dOp oIx ta tb) :=
  ⟨PE.imp (pe_ix (ixd hu) ha.pe hb.pe hs) (bin_lift fun _ _ _ _ q => q)⟩
/-! ### slices -/
abbrev DO := DSt → Gp → DX → (Option Int → Gp → Prop) → Prop
def liftO (W : WX) (t : DO) : TO := fun τ H Q => ∃ P σ G ex Qd, At P σ G τ H ∧ XOk W P G H τ ex ∧ t σ G ex Qd ∧ ∀ o G', Qd o G' → ∀ H', Wd P G' H' → Sp' P G H G' H' → Q o H'
structure MO (X : Cx) (W : WX) (e : Option Expr) (t : DO) : Prop where
  po : PO X e (liftO W t)
theorem PO.imp {e : Option Expr} {t t' : TO} (h : PO X e t) (i : ∀ σ H Q, t' σ H Q → t σ H Q) : PO X e t' := ⟨fun pins s σ H Q I q => h.run pins s σ H Q I (i σ H Q q)⟩
def dNoPart : DO := fun _ G _ Q => Q none G
def dPart (t : DE) : DO := fun σ G ex Q => t σ G ex fun x G1 => match x with
  | .int i => Q (some i) G1
  | _ => False
theorem mo_none : MO X W none dNoPart := ⟨PO.imp po_none fun τ H Q ⟨P, σ, G, ex, Qd, a, x, t, k⟩ => k _ _ t _ a.wd Sp'.refl⟩
theorem mo_some (h : ME X W e te) : MO X W (some e) (dPart te) := ⟨PO.imp (po_some h.pe) fun τ H Q ⟨P, σ, G, ex, Qd, a, x, t, k⟩ => ⟨P, σ, G, ex, _, a, x, t, fun d G1 h1 v H1 r a1 s1 => by
  cases d with
  | int i => cases r; exact ⟨i, rfl, k _ _ h1 _ a1 s1⟩
  | _ => exact h1.elim⟩⟩
def oSl (x : D) (lo hi : Option Int) (G : Gp) (Q : DK) : Prop := match x with
  | .str l => l.length ≤ 10000000 ∧ Q (.str (cutL l lo hi)) G
  | .tup ds => Q (.tup (cutL ds lo hi)) G
  | .lst ds => Q (.lst (cutL ds lo hi)) G
  | .scr ns => Q (.lst ((cutL ns lo hi).map .int)) G
  | .ref p => ∃ ds, G p = some (.lst ds) ∧ Q (.lst (cutL ds lo hi)) G
  | _ => False
def dSl (te : DE) (tl th : DO) : DE := fun σ G ex Q => te σ G ex fun x G1 => tl σ G1 ex fun l G2 => th σ G2 ex fun h G3 => oSl x l h G3 Q
theorem cut_map {α β : Type} {f : α → β} {l : List α} {lo hi : Option Int} : cutL (l.map f) lo hi = (cutL l lo hi).map f := by
  unfold cutL
  rw [List.length_map, ← List.map_drop, ← List.map_take]
theorem cut_all {α : Type} {xs : List α} {lo hi : Option Int} (h1 : HT.sIx xs.length 0 lo = 0) (h2 : HT.sIx xs.length xs.length hi = xs.length) : cutL xs lo hi = xs := by
  unfold cutL
  rw [h1, h2]
  simp
theorem me_sl {lo hi : Option Expr} {tl th : DO} {p2 : Pos} (he : ME X W e te) (hl : MO X W lo tl) (hh : MO X W hi th) : ME X W (.Subscript e (.Slice lo hi none p2) pos) (dSl te tl th) := by
  refine ⟨PE.imp (pe_slice (((sl_list (X := X)).or sl_tupA).or sl_str) he.pe hl.po hh.po) fun τ H Q ⟨P, σ, G, ex, Qd, a, x, t, k⟩ => ⟨P, σ, G, ex, _, a, x, t, fun d G1 h1 v H1 r a1 s1 =>
    ⟨P, σ, G1, ex, _, a.to a1 s1, x.to s1, h1, fun l G2 h2 H2 a2 s2 => ⟨P, σ, G2, ex, _, (a.to a1 s1).to a2 s2, (x.to s1).to s2, h2, fun u G3 h3 H3 a3 s3 => ?_⟩⟩⟩⟩
  have s13 := (s1.trans s2).trans s3
  have r3 : Rl P G3 H3 d v := (r.stp s2.s).stp s3.s
  have lists : ∀ {ds : List D} {p : Addr} {us : List V}, SqL X.K H3 p us → Rls P G3 H3 ds us → Qd (.lst (cutL ds l u)) G3 → rSlL X.K (.ref p) l u H3 Q := fun hs rs q =>
    ⟨_, _, rfl, hs, fun p hp => k _ _ q _ _ (.lst upd_same (a3.ofree hp) ((cut_rel rs).stp (Stp.new hp))) (a3.new hp) (s13.trans (Sp'.new a3 hp))⟩
  cases d with
  | str z =>
    cases r3
    obtain ⟨hl, q⟩ := h3
    refine .inr ⟨_, rfl, by rw [St_length]; exact lim_le hl, ?_⟩
    have e : cutS (St z) l u = St (cutL z l u) := by
      unfold cutS cutL
      rw [St_length]
    rw [e]
    exact k _ _ q _ _ (.str _) a3 s13
  | tup ds =>
    cases r3 with
    | tup hH hG rs =>
      refine .inl (.inr ⟨_, _, rfl, .inl (.inl hH), fun ⟨e1, e2⟩ => ?_, fun _ p hp => ?_⟩)
      · rw [← rs.len] at e1 e2
        have q : Qd (.tup (cutL ds l u)) G3 := h3
        rw [cut_all e1 e2] at q
        exact k _ _ q _ _ (.tup hH hG rs) a3 s13
      · exact k _ _ h3 _ _ (.tup upd_same (a3.ofree hp) ((cut_rel rs).stp (Stp.new hp))) (a3.new hp) (s13.trans (Sp'.new a3 hp))
  | lst ds =>
    cases r3 with
    | lst hH hG rs => exact .inl (.inl (lists (.inl (.inl hH)) rs h3))
  | scr ns =>
    cases r3 with
    | scr hH hG => exact .inl (.inl (lists (.inl hH) (Rels.of_ints ns) (by rw [cut_map]; exact h3)))
  | ref p =>
    cases r3
    obtain ⟨ds, e, q⟩ := h3
    obtain ⟨us, hH, rs⟩ := a3.at e
    exact .inl (.inl (lists (.inl (.inl hH)) rs q))
  | _ => exact h3.elim
/-- a fresh list that is one's own from here on: a slice, as it is written -/
def dSlM (te : DE) (tl th : DO) : DE := fun σ G ex Q => te σ G ex fun x G1 => tl σ G1 ex fun l G2 => th σ G2 ex fun h G3 => ∃ ds, seqL G3 x = some ds ∧ ∀ p, G3 p = none → Q (.ref p) (G3.set p (.lst (cutL ds l h)))
theorem me_slM {lo hi : Option Expr} {tl th : DO} {p2 : Pos} (he : ME X W e te) (hl : MO X W lo tl) (hh : MO X W hi th) : ME X W (.Subscript e (.Slice lo hi none p2) pos) (dSlM te tl th) := by
  refine ⟨PE.imp (pe_slice (sl_list (X := X)) he.pe hl.po hh.po) fun τ H Q ⟨P, σ, G, ex, Qd, a, x, t, k⟩ => ⟨P, σ, G, ex, _, a, x, t, fun d G1 h1 v H1 r a1 s1 =>
    ⟨P, σ, G1, ex, _, a.to a1 s1, x.to s1, h1, fun l G2 h2 H2 a2 s2 => ⟨P, σ, G2, ex, _, (a.to a1 s1).to a2 s2, (x.to s1).to s2, h2, fun u G3 h3 H3 a3 s3 => ?_⟩⟩⟩⟩
  have s13 := (s1.trans s2).trans s3
  have r3 : Rl P G3 H3 d v := (r.stp s2.s).stp s3.s
  obtain ⟨ds, e, q⟩ := h3
  obtain ⟨b, us, rfl, hs, rs⟩ := seqL_rel (K := X.K) a3 r3 e
  exact ⟨b, us, rfl, hs, fun p hp => k _ _ (q p (a3.free hp)) _ _ (.ref p) (a3.newO hp ⟨_, upd_same, (cut_rel rs).stp (Sp'.newO a3 hp).s⟩) (s13.trans (Sp'.newO a3 hp))⟩
end
end Y
/-! Y7: stores, attributes, methods of what is built in. -/
namespace Y
open PySem PySem.Spec PyProof.Rows L2

section
variable {X : Cx} {W : WX} {a b e : Expr} {es : List Expr} {ta tb te to ti : DE} {tA : DA} {pos pos' tpos apos : Pos}
/-! ### o[i] = v -/
abbrev DSet := D → D → D → Gp → (Gp → Prop) → Prop
def oSet : DSet := fun o i v G Q => match o with
  | .ref p => match G p with
    | some (.lst ds) => match i with
      | .int k => ∃ j, ixN ds.length k = some j ∧ Q (G.set p (.lst (ds.set j v)))
      | _ => False
    | some (.dic kvs) => ∃ k, keyOf i = some k ∧ kvs.length < 10000000 ∧ Q (G.set p (.dic (dput kvs k v)))
    | _ => False
  | _ => False
def liftSet (t : DSet) : TSet := fun o i v H Q => ∃ P do_ di dv G Qd, Wd P G H ∧ Rl P G H do_ o ∧ Rl P G H di i ∧ Rl P G H dv v ∧ t do_ di dv G Qd ∧ ∀ G', Qd G' → ∀ H', Wd P G' H' → Sp' P G H G' H' → Q H'
def PSetD (X : Cx) (t : DSet) : Prop := PSet X (liftSet t)
theorem PSet.or {t t' : TSet} (h : PSet X t) (h' : PSet X t') : PSet X (fun o i v H Q => t o i v H Q ∨ t' o i v H Q) := by
  intro pins s σ H o i v ov iv u Q I ro ri rv q
  rcases q with q | q
  · exact h pins s σ H o i v ov iv u Q I ro ri rv q
  · exact h' pins s σ H o i v ov iv u Q I ro ri rv q
theorem PSet.imp {t t' : TSet} (h : PSet X t) (j : ∀ o i v H Q, t' o i v H Q → t o i v H Q) : PSet X t' := fun pins s σ H o i v ov iv u Q I ro ri rv q => h pins s σ H o i v ov iv u Q I ro ri rv (j _ _ _ _ _ q)
theorem set_dict (hu : X.A.units + 1 < cLine) : PSet X (fun o i v H Q => ∃ a H', o = .ref a ∧ DPut H a i v H' ∧ Q H') := by
  intro pins s σ H o i v ov iv u Q I ro ri rv ⟨a, H', e, g, q⟩
  subst e
  cases ro
  exact d_setItem hu I g ri rv fun s' I' => ⟨H', I', q⟩
theorem setd (hu : X.A.units + 1 < cLine) : PSetD X oSet := by
  refine PSet.imp (PSet.or (set_list (X := X)) (set_dict hu)) fun o i v H Q ⟨P, d, di, dv, G, Qd, w, ro, ri, rv, q, k⟩ => ?_
  cases d with
  | ref p =>
    cases ro
    cases e : G p with
    | none => simp only [oSet, e] at q
    | some ob =>
      cases ob with
      | lst ds =>
        simp only [oSet, e] at q
        obtain ⟨us, hH, rs⟩ := w.at e
        cases di with
        | int kk =>
          cases ri
          obtain ⟨j, hj, q⟩ := q
          refine .inl ⟨p, us, kk, j, rfl, rfl, hH, by rw [← rs.len]; exact hj, k _ q _ (w.chg e ⟨_, upd_same, ?_⟩) (Sp'.chg w e)⟩
          exact (rs.stp (Sp'.chg w e).s).set (rv.stp (Sp'.chg w e).s) j
        | _ => exact q.elim
      | dic kvs =>
        simp only [oSet, e] at q
        obtain ⟨kk, ek, hl, q⟩ := q
        obtain ⟨ws, hH, rs⟩ := w.at e
        refine .inr ⟨p, _, rfl, ?_, k _ q _ (w.chg (o := .dK (putK ws (kS kk) v)) e ⟨_, upd_same, ?_⟩) (Sp'.chg w e)⟩
        · rw [keyOf_rel ek ri]
          exact DPut.k hH (by rw [← Paired.length rs]; exact lim_lt hl)
        · exact dput_rel (pair_stp (f := kS) rs (Sp'.chg w e).s) (rv.stp (Sp'.chg w e).s)
      | _ => simp only [oSet, e] at q
  | _ => exact q.elim
def gSub' (to ti : DE) : DG := fun d σ G ex Q => to σ G ex fun o G1 => ti σ G1 ex fun i G2 => oSet o i d G2 fun G3 => Q σ G3
theorem mg_sub (hu : X.A.units + 1 < cLine) (ho : ME X W a to) (hi : ME X W b ti)
    (ha : ∀ v, assign (.Subscript a b pos) X.env v = (do
      let ov ← holding [v] (eval a X.env)
      let iv ← holding [v, ov] (eval b X.env)
      standAt pos
      holding [v, ov, iv] (setItem ov iv v)
      release [v, ov, iv] [])) : MG X W (.Subscript a b pos) (gSub' to ti) :=
  ⟨PG.imp (pg_sub ho.pe hi.pe (setd hu) ha) fun v τ H Q ⟨P, d, σ, G, ex, Qd, r, a, x, h, k⟩ => ⟨P, σ, G, ex, _, a, x, h, fun o G1 h1 vo H1 ro a1 s1 =>
    ⟨P, σ, G1, ex, _, a.to a1 s1, x.to s1, h1, fun i G2 h2 vi H2 ri a2 s2 => ⟨P, o, i, d, G2, _, a2, ro.stp s2.s, ri, (r.stp s1.s).stp s2.s, h2, fun G3 q3 H3 a3 s3 =>
      k _ _ q3 _ _ (a.to a3 ((s1.trans s2).trans s3)) ((s1.trans s2).trans s3)⟩⟩⟩⟩
/-! ### attributes -/
def putD (f : Str) (v : D) : List (Str × D) → List (Str × D)
  | [] => [(f, v)]
  | (g, x) :: r => if g = f then (g, v) :: r else (g, x) :: putD f v r
abbrev FRel (Γ : Gp) (H : Hp) (p : Str × D) (q : Str × V) : Prop := p.1 = q.1 ∧ Rel Γ H p.2 q.2
theorem fld_rel {Γ : Gp} {H : Hp} {f : Str} {d : D} : ∀ {fs : List (Str × D)} {ws : List (Str × V)}, Paired (FRel Γ H) fs ws → fs.lookup f = some d → ∃ v, ws.lookup f = some v ∧ Rel Γ H d v
  | _, _, .nil, h => by cases h
  | (g, x) :: fs, (g', y) :: ws, .cons a b, h => by
    obtain ⟨a1, a2⟩ := a
    have a1' : g = g' := a1
    subst a1'
    by_cases e : f = g
    · have hb : (f == g) = true := beq_iff_eq.mpr e
      simp only [List.lookup, hb] at h ⊢
      cases h
      exact ⟨y, rfl, a2⟩
    · have hb : (f == g) = false := beq_eq_false_iff_ne.mpr e
      simp only [List.lookup, hb] at h ⊢
      exact fld_rel b h
theorem fld_none {Γ : Gp} {H : Hp} {f : Str} : ∀ {fs : List (Str × D)} {ws : List (Str × V)}, Paired (FRel Γ H) fs ws → fs.lookup f = none → ws.lookup f = none
  | _, _, .nil, h => rfl
  | (g, x) :: fs, (g', y) :: ws, .cons a b, h => by
    obtain ⟨a1, a2⟩ := a
    have a1' : g = g' := a1
    subst a1'
    by_cases e : f = g
    · have hb : (f == g) = true := beq_iff_eq.mpr e
      simp only [List.lookup, hb] at h
      cases h
    · have hb : (f == g) = false := beq_eq_false_iff_ne.mpr e
      simp only [List.lookup, hb] at h ⊢
      exact fld_none b h
theorem put_rel {Γ : Gp} {H : Hp} {f : Str} {d : D} {v : V} (r : Rel Γ H d v) : ∀ {fs : List (Str × D)} {ws : List (Str × V)}, Paired (FRel Γ H) fs ws → Paired (FRel Γ H) (putD f d fs) (putF f v ws)
  | _, _, .nil => .cons ⟨rfl, r⟩ .nil
  | (g, x) :: fs, (g', y) :: ws, .cons a b => by
    obtain ⟨a1, a2⟩ := a
    have a1' : g = g' := a1
    subst a1'
    unfold putD putF
    by_cases e : g = f
    · rw [if_pos e, if_pos e]
      exact .cons ⟨rfl, r⟩ b
    · rw [if_neg e, if_neg e]
      exact .cons ⟨rfl, a2⟩ (put_rel r b)
/-- e.f, an attribute of an instance of the class at C -/
def dFld (C : Addr) (f : Str) (te : DE) : DE := fun σ G ex Q => te σ G ex fun x G1 => ∃ a fs d, x = .ref a ∧ G1 a = some (.ins C fs) ∧ fs.lookup f = some d ∧ Q d G1
theorem me_fld {C : Addr} {f : Str} (he : ME X W e te) (c : Cls X.K C) (n : NoAttr X.K C f) (hb : attributeBase e f X.env (eval e X.env) = eval e X.env) : ME X W (.Attribute e f pos) (dFld C f te) :=
  ⟨PE.imp (pe_fld he.pe hb) fun τ H Q ⟨P, σ, G, ex, Qd, a, x, t, k⟩ => ⟨P, σ, G, ex, _, a, x, t, fun d G1 ⟨b, fs, dd, e1, e2, e3, q⟩ v H1 r a1 s1 => by
    subst e1
    cases r
    obtain ⟨dx, ws, hH, rs⟩ := a1.at e2
    obtain ⟨u, e4, ru⟩ := fld_rel rs e3
    exact ⟨b, C, dx, ws, u, rfl, hH, c, n, e4, k _ _ q _ _ ru a1 s1⟩⟩⟩
/-- o.f = value -/
def dFldS (C : Addr) (f : Str) (to tv : DE) : DS := fun E σ G => tv σ G E.ex fun y G1 => to σ G1 E.ex fun x G2 => ∃ a fs, x = .ref a ∧ G2 a = some (.ins C fs) ∧ fs.length < 1000 ∧ E.nx σ (G2.set a (.ins C (putD f y fs)))
theorem ms_fld {C : Addr} {f : Str} (ho : ME X W a to) (hv : ME X W e te) (c : Cls X.K C) (n : NoAttr X.K C f) (hs : swapsWith e (some (.Attribute a f pos')) pos.line X.env = pure false) : MS X W (.Assign [.Attribute a f pos'] e pos) (dFldS C f to te) :=
  ⟨PS.imp (ps_fld ho.pe hv.pe hs) fun F τ H ⟨P, σ, G, E, a, ek, h⟩ => ⟨P, σ, G, E.ex, _, a, ek.xok, h, fun y G1 h1 vy H1 ry a1 s1 =>
    ⟨P, σ, G1, E.ex, _, a.to a1 s1, (ek.to s1).xok, h1, fun x G2 ⟨b, fs, e1, e2, e3, q⟩ v H2 r a2 s2 => by
      subst e1
      cases r
      obtain ⟨dx, ws, hH, rs⟩ := a2.at e2
      refine ⟨b, C, dx, ws, rfl, hH, c, n, by rw [← Paired.length rs]; exact e3, ?_⟩
      have st := Sp'.chg (o := .ins C dx (putF f vy ws)) (g := .ins C (putD f y fs)) a2 e2
      have w3 : Wd P _ _ := a2.chg (o := .ins C dx (putF f vy ws)) (g := .ins C (putD f y fs)) e2 ⟨dx, _, upd_same, put_rel ((ry.stp s2.s).stp st.s) (pair_stp (f := fun x => x) rs st.s)⟩
      exact ek.nx _ _ q _ _ (a.to w3 ((s1.trans s2).trans st)) ((s1.trans s2).trans st)⟩⟩⟩
/-! ### methods of what is built in -/
def tyD (T : String) (x : D) (G : Gp) : Prop := match x with
  | .str _ => T = "str"
  | .lst _ => T = "list"
  | .scr _ => T = "list"
  | .ref p => (T = "list" ∧ ∃ ds, G p = some (.lst ds)) ∨ (T = "dict" ∧ ∃ kvs, G p = some (.dic kvs))
  | _ => False
theorem tyD_rel {K : PySem.W.Frag} {P : Pv} {G : Gp} {H : Hp} {T : String} {x : D} {v : V} (w : Wd P G H) (r : Rl P G H x v) (h : tyD T x G) : tyV K T v H := by
  cases x with
  | str z => cases r; exact h
  | lst ds => cases r with
    | lst hH hG rs => exact .inl ⟨h, _, .inl (.inl hH)⟩
  | scr ns => cases r with
    | scr hH hG => exact .inl ⟨h, _, .inl hH⟩
  | ref p =>
    cases r
    rcases h with ⟨h, ds, e⟩ | ⟨h, kvs, e⟩
    · obtain ⟨us, hH, _⟩ := w.at e
      exact .inl ⟨h, _, .inl (.inl hH)⟩
    · obtain ⟨us, hH, _⟩ := w.at e
      exact .inr (.inr (.inl ⟨h, .inl ⟨_, hH⟩⟩))
  | _ => exact h.elim
abbrev RMd := D → List D → Gp → DK → Prop
def liftM (r : RMd) : V → List V → Hp → VK → Prop := fun x xs H Q => ∃ P d ds G Qd, Wd P G H ∧ Rl P G H d x ∧ Rls P G H ds xs ∧ r d ds G Qd ∧ KOk P G H Qd Q
def MtD (X : Cx) (id : String) (r : RMd) : Prop := MtR X id (liftM r)
def dBM (T : String) (r : RMd) (to : DE) (tA : DA) : DE := fun σ G ex Q => to σ G ex fun x G1 => tyD T x G1 ∧ tA σ G1 ex fun ds G2 => r x ds G2 Q
def dBM0 (T : String) (r : RMd) (to : DE) : DE := fun σ G ex Q => to σ G ex fun x G1 => tyD T x G1 ∧ r x [] G1 Q
theorem me_bm {T id : String} {name : Str} {cpos : Pos} {r : RMd} (pa : PlainAttrs T) (slot : Slot T name id) (hty : typeOf (.builtin id) = pure (.type "method_descriptor")) (hm : MtD X id r) (ho : ME X W a to) (ha : MA X W (e :: es) tA)
    (hbase : attributeBase a name X.env (eval a X.env) = eval a X.env)
    (hfew : ((backTo cpos (starEach (e :: es) X.env)).all (fun x => !x.1) && (backToKw cpos (keywordEach [] X.env)).all (fun x => x.1.isSome)
      && decide ((e :: es).length + ([] : List Keyword).length + (if ([] : List Keyword).isEmpty then 0 else 1) < 30)) = true)
    (hline : (apos.endLine == cpos.line) = true) (hs : starEach (e :: es) X.env = (false, eval e X.env) :: starEach es X.env) (hplain : (backTo cpos (starEach es X.env)).any (·.1) = false) :
    ME X W (.Call (.Attribute a name apos) (e :: es) [] cpos) (dBM T r to tA) :=
  ⟨PE.imp (pe_bm pa slot hty hm ho.pe ha.pa hbase hfew hline hs hplain) fun τ H Q ⟨P, σ, G, ex, Qd, a, x, t, k⟩ => ⟨P, σ, G, ex, _, a, x, t, fun d G1 ⟨ty, h1⟩ v H1 r1 a1 s1 =>
    ⟨tyD_rel a1 r1 ty, P, σ, G1, ex, _, a.to a1 s1, x.to s1, h1, fun ds G2 h2 vs H2 rs a2 s2 => ⟨P, d, ds, G2, Qd, a2, r1.stp s2.s, rs, h2, KOk.to k (s1.trans s2)⟩⟩⟩⟩
theorem me_bm0 {T id : String} {name : Str} {cpos : Pos} {r : RMd} (pa : PlainAttrs T) (slot : Slot T name id) (hty : typeOf (.builtin id) = pure (.type "method_descriptor")) (hm : MtD X id r) (ho : ME X W a to)
    (hbase : attributeBase a name X.env (eval a X.env) = eval a X.env) (hline : (apos.endLine == cpos.line) = true) :
    ME X W (.Call (.Attribute a name apos) [] [] cpos) (dBM0 T r to) :=
  ⟨PE.imp (pe_bm0 pa slot hty hm ho.pe hbase hline) fun τ H Q ⟨P, σ, G, ex, Qd, a, x, t, k⟩ => ⟨P, σ, G, ex, _, a, x, t, fun d G1 ⟨ty, h1⟩ v H1 r1 a1 s1 =>
    ⟨tyD_rel a1 r1 ty, P, d, [], G1, Qd, a1, r1, .nil, h1, KOk.to k s1⟩⟩⟩
theorem mtd_of {id : String} {r' : V → List V → Hp → VK → Prop} {r : RMd} (h : MtR X id r') (i : ∀ P d ds G Qd x xs H Q, Wd P G H → Rl P G H d x → Rls P G H ds xs → r d ds G Qd → KOk P G H Qd Q → r' x xs H Q) : MtD X id r :=
  MtR.imp h fun x xs H Q ⟨P, d, ds, G, Qd, w, rx, rs, q, k⟩ => i P d ds G Qd x xs H Q w rx rs q k
/-- xs.append(y) -/
def mAppend : RMd := fun x xs G Q => ∃ p ds d, x = .ref p ∧ xs = [d] ∧ G p = some (.lst ds) ∧ ds.length < 10000000 ∧ Q .non (G.set p (.lst (ds ++ [d])))
theorem mtd_append : MtD X "list.append" mAppend :=
  mtd_of (mt_append (X := X)) fun P d ds G Qd x xs H Q w rx rs ⟨p, es, y, e1, e2, e3, hl, q⟩ k => by
    subst e1 e2
    cases rx
    obtain ⟨us, hH, ru⟩ := w.at e3
    match xs, rs with
    | [v], .cons rv .nil =>
      exact ⟨p, us, v, rfl, rfl, hH, by rw [← ru.len]; exact lim_lt hl, k _ _ q _ _ .non (w.chg e3 ⟨_, upd_same, (ru.stp (Sp'.chg w e3).s).append (.cons (rv.stp (Sp'.chg w e3).s) .nil)⟩) (Sp'.chg w e3)⟩
/-- xs.extend(ys) -/
def mExtend : RMd := fun x xs G Q => ∃ p ds d es, x = .ref p ∧ xs = [d] ∧ G p = some (.lst ds) ∧ lstOf G d = some es ∧ ds.length + es.length ≤ 10000000 ∧ Q .non (G.set p (.lst (ds ++ es)))
theorem mtd_extend : MtD X "list.extend" mExtend :=
  mtd_of (mt_extend (X := X)) fun P d ds G Qd x xs H Q w rx rs ⟨p, es, y, fs, e1, e2, e3, e4, hl, q⟩ k => by
    subst e1 e2
    cases rx
    obtain ⟨us, hH, ru⟩ := w.at e3
    match xs, rs with
    | [v], .cons rv .nil =>
      obtain ⟨b, ws, rfl, h2, r2⟩ := lst_rel w rv e4
      exact ⟨p, b, us, ws, rfl, rfl, hH, h2, by rw [← ru.len, ← r2.len]; exact lim_le hl, k _ _ q _ _ .non (w.chg e3 ⟨_, upd_same, (ru.stp (Sp'.chg w e3).s).append (r2.stp (Sp'.chg w e3).s)⟩) (Sp'.chg w e3)⟩
/-- xs.pop() -/
theorem Rels.dropLast {Γ : Gp} {H : Hp} : ∀ {ds : List D} {us : List V}, Rels Γ H ds us → Rels Γ H ds.dropLast us.dropLast := fun {ds us} r => by
  rw [List.dropLast_eq_take, List.dropLast_eq_take, ← r.len]
  exact r.take _
def mPop : RMd := fun x xs G Q => ∃ p ds d, x = .ref p ∧ xs = [] ∧ G p = some (.lst ds) ∧ ds[ds.length - 1]? = some d ∧ Q d (G.set p (.lst ds.dropLast))
theorem mtd_pop : MtD X "list.pop" mPop :=
  mtd_of (mt_pop (X := X)) fun P d ds G Qd x xs H Q w rx rs ⟨p, es, y, e1, e2, e3, e4, q⟩ k => by
    subst e1 e2
    cases rx
    cases rs
    obtain ⟨us, hH, ru⟩ := w.at e3
    obtain ⟨v, ev, rv⟩ := ru.get e4
    exact ⟨p, us, v, rfl, rfl, hH, by rw [← ru.len]; exact ev, k _ _ q _ _ (rv.stp (Sp'.chg w e3).s) (w.chg e3 ⟨_, upd_same, (ru.stp (Sp'.chg w e3).s).dropLast⟩) (Sp'.chg w e3)⟩
/-- xs.pop(i) -/
def mPopAt : RMd := fun x xs G Q => ∃ p ds i k d, x = .ref p ∧ xs = [.int i] ∧ G p = some (.lst ds) ∧ (-(2 ^ 63) ≤ i ∧ i < 2 ^ 63) ∧ seqIndex? i ds.length = some k ∧ ds[k]? = some d ∧ Q d (G.set p (.lst (ds.eraseIdx k)))
theorem mtd_popAt : MtD X "list.pop" mPopAt :=
  mtd_of (mt_popAt (X := X)) fun P d ds G Qd x xs H Q w rx rs ⟨p, es, i, j, y, e1, e2, e3, ⟨b1, b2⟩, e4, e5, q⟩ k => by
    subst e1 e2
    cases rx
    match xs, rs with
    | [v], .cons rv .nil =>
      cases rv
      obtain ⟨us, hH, ru⟩ := w.at e3
      obtain ⟨v, ev, rv⟩ := ru.get e5
      exact ⟨p, us, i, j, v, rfl, rfl, hH, b1, b2, by rw [← ru.len]; exact e4, ev, k _ _ q _ _ (rv.stp (Sp'.chg w e3).s) (w.chg e3 ⟨_, upd_same, (ru.stp (Sp'.chg w e3).s).eraseIdx j⟩) (Sp'.chg w e3)⟩
/-- sep.join(texts) -/
def mJoin : RMd := fun x xs G Q => ∃ a d ys, x = .str a ∧ xs = [d] ∧ seqR G d = some (ys.map D.str) ∧ (ys.map List.length).sum + ys.length * a.length ≤ 10000000 ∧ Q (.str (TL.joinL a ys)) G
theorem join_St (a : List Nat) (ys : List (List Nat)) : Txt.join (St a) (ys.map St) = St (TL.joinL a ys) := by
  apply TL.ext_tl
  rw [TL.join_eq, TL.tl_join]
  have e : (ys.map St).map TL.tl = ys := by rw [List.map_map]; simp [Function.comp_def, TL.tl]
  rw [e]
theorem mtd_join : MtD X "str.join" mJoin :=
  mtd_of (mt_join (X := X)) fun P d ds G Qd x xs H Q w rx rs ⟨a, y, ys, e1, e2, e3, hl, q⟩ k => by
    subst e1 e2
    cases rx
    match xs, rs with
    | [v], .cons rv .nil =>
      obtain ⟨b, us, rfl, hs, r2⟩ := seqR_rel (K := X.K) w rv e3
      rw [Rels.strs r2] at hs
      refine ⟨St a, b, ys.map St, rfl, rfl, hs, ?_, by rw [join_St]; exact k _ _ q _ _ (.str _) w Sp'.refl⟩
      rw [List.length_map, St_length, List.map_map]
      have e : ((fun x => Str.length x) ∘ St) = List.length (α := Nat) := by funext l; exact St_length l
      have e2 : (Str.length ∘ St) = List.length (α := Nat) := e
      simp only [Function.comp_def] at e2 ⊢
      first
        | (rw [e2]; omega)
        | (simp only [St_length]; omega)
end
end Y
/-! Y8: calls of what is built in. -/
namespace Y
open PySem PySem.Spec PyProof.Rows L2

/-! ### sorted(dict of texts), sorted(texts) of any length -/
section
variable {prog : Program} {w : World} {A : Around} {E : Value → Shared → Prop} {s : Shared} {T : String} {r d : Addr} {n : Nat} {P : Nat → Value → Prop} {OK : Heap → Prop}
theorem collect_kdl {Q : List Value → Shared → Prop} (K : PySem.W.KdlSrc prog w T r d n P OK) (hh : A.handled = none) (hok : OK s.heap) (hn : n ≤ sizeLine)
    (hQ : ∀ h' tk (acc : Array Value), (∀ b o, s.heap.get? b = some o → h'.get? b = some o) → s.heap.objs.size ≤ h'.objs.size → ItemsOf P acc n → Q acc.toList { s with heap := h', toks := tk }) :
    wpAny (model prog w) A (collect (.ref r)) Q E s := by
  have hlt := K.there _ hok
  unfold collect
  refine wpAny_bind (wpAny_runValue (codeAny_builtin PySem.F.entry_proto_collect ?_))
  rw [Around.under_plainId PySem.F.plain_proto_collect _]
  show wpAny _ A.in1 (newList [] >>= fun l => again (.builtin "list.__iadd__" ⟨[l, .ref r], []⟩)) _ _ s
  refine wpAny_bind (wpAny_newObj_type ?_)
  refine wpAny_pure ⟨plainId_quiet PySem.F.plain_list_iadd _, codeAny_builtin PySem.F.entry_list_iadd ?_⟩
  rw [Around.under_plainId PySem.F.plain_list_iadd _]
  have hS : (s.heap.push { cls := .type "list", data := .seq ([] : List Value).toArray }).get? s.heap.objs.size = some { cls := .type "list", data := .seq ([] : List Value).toArray } := Heap.get?_push_size _ rfl
  show wpAny _ A.in1 (Builtin.List.listExtendWith (.ref s.heap.objs.size) (.ref r) (.ref s.heap.objs.size)) _ _ _
  have fin : ∀ s', (∃ h' tk acc' c', s' = { s with heap := h', toks := tk } ∧ (∀ b o, b ≠ s.heap.objs.size → (s.heap.push { cls := .type "list", data := .seq ([] : List Value).toArray }).get? b = some o → h'.get? b = some o) ∧
      h'.get? s.heap.objs.size = some { cls := .type "list", dict := none, data := .seq acc' c', slots := #[] } ∧ ItemsOf P acc' n) →
      wpAny (model prog w) A (load s.heap.objs.size >>= fun o => match o.data with | .seq xs _ => pure xs.toList | _ => unsupported "internal:collect") Q E s' := by
    rintro s' ⟨h', tk, acc', c', rfl, hk, hS', hacc⟩
    refine wpAny_bind (wpAny_load hS' ?_)
    exact wpAny_pure (hQ h' tk acc' (fun b o e => hk b o (Nat.ne_of_lt (Heap.lt_size e)) (Heap.get?_push_of_some _ e)) (Nat.le_of_lt (Heap.lt_size hS')) hacc)
  refine wpAny_mono (PySem.W.kdl_extend (A := A) (s := { s with heap := s.heap.push { cls := .type "list", data := .seq ([] : List Value).toArray } })
    (R := fun r s' => r = .ok (.ret (.ref s.heap.objs.size)) ∧ ∃ h' tk acc' c', s' = { s with heap := h', toks := tk } ∧ (∀ b o, b ≠ s.heap.objs.size → (s.heap.push { cls := .type "list", data := .seq ([] : List Value).toArray }).get? b = some o → h'.get? b = some o) ∧
      h'.get? s.heap.objs.size = some { cls := .type "list", dict := none, data := .seq acc' c', slots := #[] } ∧ ItemsOf P acc' n) K hh (K.keep _ _ hok fun b _ o e => Heap.get?_push_of_some _ e) _ (Nat.ne_of_gt hlt.1) (Nat.ne_of_gt hlt.2) _ 0 hS (fun h' tk acc' c' hk hS' hacc => ⟨rfl, h', tk, acc', c', rfl, hk, hS', hacc⟩) hn) (fun f s' h => ?_) fun e s' h => by cases h.1
  cases f with
  | done f =>
    obtain ⟨e, h⟩ := h
    cases e
    exact fin s' h
  | again c' =>
    refine ⟨h.1, codeAny_mono h.2 fun r s2 ⟨e, h2⟩ => ?_⟩
    subst e
    exact fin s2 h2
/-- sorted(x) where what x gives are texts -/
theorem sorted_kdl_strs {ss : List Str} {Q : Value → Shared → Prop} (K : PySem.W.KdlSrc prog w T r d n P OK) (hh : A.handled = none) (hok : OK s.heap) (hn : n ≤ sizeLine)
    (hs : ∀ acc : Array Value, ItemsOf P acc n → StrsAre acc.toList ss)
    (hQ : ∀ h' tk p (out : Array Value) (c : Nat) (ss' : List Str), (∀ b o, s.heap.get? b = some o → h'.get? b = some o) → s.heap.objs.size ≤ p → h'.get? p = some (seqObj "list" out c) → StrsAre out.toList ss' → ss'.Perm ss → sortedS ss' = true → Q (.ref p) { s with heap := h', toks := tk }) :
    wpAny (model prog w) A (call (.builtin "sorted") [.ref r]) Q E s := by
  refine Calls.call_function_entry kind_sorted plain_sorted entry_sorted (args_sorted1 _) ?_
  unfold Builtin.«sorted»
  refine wpAny_bind (m := checkCount "sorted" 1 1 _) (wpAny_pure ?_)
  refine wpAny_bind (collect_kdl (A := A.in1) K hh hok hn fun h1 tk acc k1 hz hacc => ?_)
  have hS := hs acc hacc
  have hL : acc.toList.length ≤ sizeLine := by rw [Array.length_toList, hacc.1]; exact hn
  refine wpAny_bind (wpAny_newList ?_)
  have hoL : (h1.push (seqObj "list" acc.toList.toArray 0)).get? h1.objs.size = some (seqObj "list" acc.toList.toArray 0) := Heap.get?_push_size _ rfl
  show wpAny _ _ _ _ _ { s with heap := h1.push (seqObj "list" acc.toList.toArray 0), toks := tk }
  refine wpAny_bind (wpAny_holding (wpAny_call_entry slot_list_sort ⟨_, hoL, rfl⟩ entry_list_sort (list_sort_treeKAny strKind_oneLt hoL hS.keysOf (fun v₁ v₂ rest e => keyKind_strs (by rw [← e]; exact hS)) hL fun st' a1 a2 => ⟨_, rfl, ?_⟩) (args_list_sort _)))
  refine wpAny_pure ⟨_, rfl, ?_⟩
  obtain ⟨ss', b1, b2, b3⟩ := sorted_out_str hS a1 a2
  obtain ⟨ep, he⟩ := sortedHeap_at (out := (arrOf st').map (·.2)) hoL
  refine hQ _ tk h1.objs.size _ ep ss' (fun b o e => ?_) hz he b1 b2 b3
  have hb : b < h1.objs.size := Heap.lt_size (k1 b o e)
  rw [sortedHeap_old (Nat.ne_of_lt hb) (Nat.lt_trans hb (by rw [size_push']; exact Nat.lt_succ_self _))]
  exact Heap.get?_push_of_some _ (k1 b o e)
end

section
variable {X : Cx} {W : WX} {e : Expr} {es : List Expr} {tA : DA} {pos p : Pos} {x : Str}
/-! ### calls by values -/
def liftC (r : RCd) : List V → Hp → VK → Prop := fun xs H Q => ∃ P ds G Qd, Wd P G H ∧ Rls P G H ds xs ∧ r ds G Qd ∧ KOk P G H Qd Q
def CallD (X : Cx) (f : Value) (r : RCd) : Prop := CallR X f (liftC r)
def dCB (r : RCd) (tA : DA) : DE := fun σ G ex Q => tA σ G ex fun ds G1 => r ds G1 Q
theorem cb_lift {r : RCd} {tA : DA} : ∀ τ H Q, liftE W (dCB r tA) τ H Q → tCB (liftC r) (liftA W tA) τ H Q := fun τ H Q ⟨P, σ, G, ex, Qd, a, x, t, k⟩ =>
  ⟨P, σ, G, ex, _, a, x, t, fun ds G1 h1 vs H1 rs a1 s1 => ⟨P, ds, G1, Qd, a1, rs, h1, KOk.to k s1⟩⟩
theorem me_callB {id : String} {r : RCd} (hc : CallD X (.builtin id) r) (hg : Gl X x) (hm : X.mg x = none) (hv : bootBuiltins x = some (.builtin id)) (ha : MA X W (e :: es) tA) (hn : x ≠ "__name__") (hdb : (x == ("__debug__" : Str)) = false)
    (he : starEach (e :: es) X.env = (false, eval e X.env) :: starEach es X.env) (hpl : (backTo pos (starEach es X.env)).any (·.1) = false) : ME X W (.Call (.Name x p) (e :: es) [] pos) (dCB r tA) :=
  ⟨PE.imp (pe_callB hc hg hm hv ha.pa hn hdb he hpl) cb_lift⟩
theorem me_callTy {T : String} {r : RCd} (hc : CallD X (.type T) r) (hg : Gl X x) (hm : X.mg x = none) (hv : bootBuiltins x = some (.type T)) (ha : MA X W (e :: es) tA) (hn : x ≠ "__name__") (hdb : (x == ("__debug__" : Str)) = false)
    (he : starEach (e :: es) X.env = (false, eval e X.env) :: starEach es X.env) (hpl : (backTo pos (starEach es X.env)).any (·.1) = false) : ME X W (.Call (.Name x p) (e :: es) [] pos) (dCB r tA) :=
  ⟨PE.imp (pe_callTy hc hg hm hv ha.pa hn hdb he hpl) cb_lift⟩
theorem calld_of {f : Value} {r' : List V → Hp → VK → Prop} {r : RCd} (h : CallR X f r') (i : ∀ P ds G Qd xs H Q, Wd P G H → Rls P G H ds xs → r ds G Qd → KOk P G H Qd Q → r' xs H Q) : CallD X f r :=
  CallR.imp h fun xs H Q ⟨P, ds, G, Qd, w, rs, q, k⟩ => i P ds G Qd xs H Q w rs q k
/-- len -/
def lenD (G : Gp) : D → Option Nat
  | .str l => some l.length
  | .tup ds => some ds.length
  | .lst ds => some ds.length
  | .scr ns => some ns.length
  | .ref p => match G p with
    | some (.lst ds) => some ds.length
    | some (.dic kvs) => some kvs.length
    | _ => none
  | _ => none
def cLen : RCd := fun xs G Q => ∃ d n, xs = [d] ∧ lenD G d = some n ∧ (n ≤ 10000000) ∧ Q (.int n) G
theorem cd_len : CallD X (.builtin "len") cLen :=
  calld_of ((call_len (X := X)).or call_lenD) fun P ds G Qd xs H Q w rs ⟨d, n, e1, e2, hl, q⟩ k => by
    subst e1
    match xs, rs with
    | [v], .cons rv .nil =>
      have fin : Q (.int n) H := k _ _ q _ _ (.int _) w Sp'.refl
      cases d with
      | str l => cases rv; cases e2; exact .inl ⟨_, _, rfl, ⟨by rw [St_length]; exact lim_le hl, (St_length l).symm⟩, fin⟩
      | tup ds => cases rv with
        | tup hH hG rs => cases e2; exact .inl ⟨_, _, rfl, .inr ⟨_, .inl (.inl hH), rs.len⟩, fin⟩
      | lst ds => cases rv with
        | lst hH hG rs => cases e2; exact .inl ⟨_, _, rfl, .inl ⟨_, .inl (.inl hH), rs.len⟩, fin⟩
      | scr ds => cases rv with
        | scr hH hG => cases e2; exact .inl ⟨_, _, rfl, .inl ⟨_, .inl hH, by rw [List.length_map]⟩, fin⟩
      | ref p =>
        cases rv
        have e2' : (match G p with
          | some (.lst ds) => some ds.length
          | some (.dic kvs) => some kvs.length
          | _ => none) = some n := e2
        cases eG : G p with
        | none => rw [eG] at e2'; cases e2'
        | some o =>
          rw [eG] at e2'
          cases o with
          | lst es =>
            cases e2'
            obtain ⟨us, hH, ru⟩ := w.at eG
            exact .inl ⟨_, _, rfl, .inl ⟨_, .inl (.inl hH), ru.len⟩, fin⟩
          | dic es =>
            cases e2'
            obtain ⟨us, hH, ru⟩ := w.at eG
            exact .inr ⟨p, us, rfl, hH, by rw [← Paired.length ru]; exact fin⟩
          | _ => cases e2'
      | _ => cases e2
/-- max, min of two numbers -/
def cMax2 : RCd := fun xs G Q => ∃ i j, xs = [.int i, .int j] ∧ Q (.int (if j > i then j else i)) G
def cMin2 : RCd := fun xs G Q => ∃ i j, xs = [.int i, .int j] ∧ Q (.int (if j < i then j else i)) G
theorem cd_max2 (hc : X.calm = true) : CallD X (.builtin "max") cMax2 := calld_of (L2.call_max2 (X := X) hc) fun P ds G Qd xs H Q w rs ⟨i, j, e1, q⟩ k => by
  subst e1
  match xs, rs with
  | [v, u], .cons rv (.cons ru .nil) => cases rv; cases ru; exact ⟨i, j, rfl, k _ _ q _ _ (.int _) w Sp'.refl⟩
theorem cd_min2 (hc : X.calm = true) : CallD X (.builtin "min") cMin2 := calld_of (L2.call_min2 (X := X) hc) fun P ds G Qd xs H Q w rs ⟨i, j, e1, q⟩ k => by
  subst e1
  match xs, rs with
  | [v, u], .cons rv (.cons ru .nil) => cases rv; cases ru; exact ⟨i, j, rfl, k _ _ q _ _ (.int _) w Sp'.refl⟩
/-- sum, all, any of a list -/
def cSum : RCd := fun xs G Q => ∃ (d : D) (ns : List Int), xs = [d] ∧ seqL G d = some (ns.map D.int) ∧ Q (.int ns.sum) G
def cAll : RCd := fun xs G Q => ∃ (d : D) (bs : List Bool), xs = [d] ∧ seqL G d = some (bs.map D.bl) ∧ Q (.bl (bs.all id)) G
def cAny : RCd := fun xs G Q => ∃ (d : D) (bs : List Bool), xs = [d] ∧ seqL G d = some (bs.map D.bl) ∧ Q (.bl (bs.any id)) G
theorem cd_sum (hc : X.calm = true) : CallD X (.builtin "sum") cSum := calld_of (cr_sum hc) fun P ds G Qd xs H Q w rs ⟨d, ns, e1, e2, q⟩ k => by
  subst e1
  match xs, rs with
  | [v], .cons rv .nil =>
    obtain ⟨a, us, rfl, hs, ru⟩ := seqL_rel (K := X.K) w rv e2
    rw [Rels.ints ru] at hs
    exact ⟨a, ns, rfl, hs, k _ _ q _ _ (.int _) w Sp'.refl⟩
theorem cd_all (hc : X.calm = true) : CallD X (.builtin "all") cAll := calld_of (cr_all hc) fun P ds G Qd xs H Q w rs ⟨d, ns, e1, e2, q⟩ k => by
  subst e1
  match xs, rs with
  | [v], .cons rv .nil =>
    obtain ⟨a, us, rfl, hs, ru⟩ := seqL_rel (K := X.K) w rv e2
    rw [Rels.bls ru] at hs
    exact ⟨a, ns, rfl, hs, k _ _ q _ _ (.bl _) w Sp'.refl⟩
theorem cd_any (hc : X.calm = true) : CallD X (.builtin "any") cAny := calld_of (cr_any hc) fun P ds G Qd xs H Q w rs ⟨d, ns, e1, e2, q⟩ k => by
  subst e1
  match xs, rs with
  | [v], .cons rv .nil =>
    obtain ⟨a, us, rfl, hs, ru⟩ := seqL_rel (K := X.K) w rv e2
    rw [Rels.bls ru] at hs
    exact ⟨a, ns, rfl, hs, k _ _ q _ _ (.bl _) w Sp'.refl⟩
/-- tuple(x), list(x), of a row -/
def cTup : RCd := fun xs G Q => ∃ d ds, xs = [d] ∧ seqR G d = some ds ∧ Q (.tup ds) G
theorem cd_tup : CallD X (.type "tuple") cTup := calld_of (call_tuple_of (X := X)) fun P ds G Qd xs H Q w rs ⟨d, es, e1, e2, q⟩ k => by
  subst e1
  match xs, rs with
  | [v], .cons rv .nil =>
    have gen : ∀ {d : D} {v : V}, Rl P G H d v → seqL G d = some es → ∃ p ys, [v] = [V.ref p] ∧ ((SqL X.K H p ys ∧ ∀ l, H l = none → Q (.ref l) (upd H l (.tup ys))) ∨ (SqT X.K H p ys ∧ Q (.ref p) H)) := fun rv e2 => by
      obtain ⟨a, us, rfl, hs, ru⟩ := seqL_rel (K := X.K) w rv e2
      exact ⟨a, us, rfl, .inl ⟨hs, fun p hp => k _ _ q _ _ (.tup upd_same (w.ofree hp) (ru.stp (Stp.new hp))) (w.new hp) (Sp'.new w hp)⟩⟩
    cases d with
    | tup ts => cases rv with
      | tup hH hG rs => cases e2; exact ⟨_, _, rfl, .inr ⟨.inl (.inl hH), k _ _ q _ _ (.tup hH hG rs) w Sp'.refl⟩⟩
    | lst ts => exact gen rv e2
    | scr ts => exact gen rv e2
    | ref ts => exact gen rv e2
    | _ => cases e2
def cLst : RCd := fun xs G Q => ∃ d ds, xs = [d] ∧ seqR G d = some ds ∧ Q (.lst ds) G
def cLstM : RCd := fun xs G Q => ∃ d ds, xs = [d] ∧ seqR G d = some ds ∧ ∀ p, G p = none → Q (.ref p) (G.set p (.lst ds))
theorem cd_lst : CallD X (.type "list") cLst := calld_of (call_list_of (X := X)) fun P ds G Qd xs H Q w rs ⟨d, es, e1, e2, q⟩ k => by
  subst e1
  match xs, rs with
  | [v], .cons rv .nil =>
    obtain ⟨a, us, rfl, hs, ru⟩ := seqR_rel (K := X.K) w rv e2
    exact ⟨a, us, rfl, hs, fun p hp => k _ _ q _ _ (.lst upd_same (w.ofree hp) (ru.stp (Stp.new hp))) (w.new hp) (Sp'.new w hp)⟩
theorem cd_lstM : CallD X (.type "list") cLstM := calld_of (call_list_of (X := X)) fun P ds G Qd xs H Q w rs ⟨d, es, e1, e2, q⟩ k => by
  subst e1
  match xs, rs with
  | [v], .cons rv .nil =>
    obtain ⟨a, us, rfl, hs, ru⟩ := seqR_rel (K := X.K) w rv e2
    exact ⟨a, us, rfl, hs, fun p hp => k _ _ (q p (w.free hp)) _ _ (.ref p) (w.newO hp ⟨_, upd_same, ru.stp (Sp'.newO w hp).s⟩) (Sp'.newO w hp)⟩
/-- int(x): a number, a truth -/
def cInt : RCd := fun xs G Q => match xs with
  | [.int i] => Q (.int i) G
  | [.bl b] => Q (.int (if b then 1 else 0)) G
  | _ => False
theorem cd_int : CallD X (.type "int") cInt := calld_of (call_int1 (X := X)) fun P ds G Qd xs H Q w rs q k => by
  match ds, xs, rs, q with
  | [.int i], [_], .cons (.int _) .nil, q => exact .inl ⟨i, rfl, k _ _ q _ _ (.int _) w Sp'.refl⟩
  | [.bl b], [_], .cons (.bl _) .nil, q => exact .inr ⟨b, rfl, k _ _ q _ _ (.int _) w Sp'.refl⟩
/-- divmod of numbers -/
def cDivmod : RCd := fun xs G Q => ∃ i j, xs = [.int i, .int j] ∧ (0 < j ∧ (Builtin.Int.intBits i ≤ Builtin.Int.intBits j + 4000)) ∧ Q (.tup [.int (i / j), .int (i % j)]) G
theorem cd_divmod : CallD X (.builtin "divmod") cDivmod := calld_of (call_divmodW (X := X)) fun P ds G Qd xs H Q w rs ⟨i, j, e1, ⟨h1, h2⟩, q⟩ k => by
  subst e1
  match xs, rs with
  | [v, u], .cons rv (.cons ru .nil) =>
    cases rv
    cases ru
    exact ⟨i, j, rfl, divp_ok h1 h2, fun p hp => k _ _ q _ _ (.tup upd_same (w.ofree hp) (.cons (.int _) (.cons (.int _) .nil))) (w.new hp) (Sp'.new w hp)⟩
/-- sorted(numbers) -/
def cSortI : RCd := fun xs G Q => ∃ (d : D) (ns : List Int), xs = [d] ∧ seqL G d = some (ns.map D.int) ∧ ∀ ns' : List Int, ns'.Perm ns → ns'.Pairwise (· ≤ ·) → Q (.lst (ns'.map D.int)) G
theorem cd_sortI : CallD X (.builtin "sorted") cSortI := calld_of (cr_sortedI (X := X)) fun P ds G Qd xs H Q w rs ⟨d, ns, e1, e2, q⟩ k => by
  subst e1
  match xs, rs with
  | [v], .cons rv .nil =>
    obtain ⟨a, us, rfl, hs, ru⟩ := seqL_rel (K := X.K) w rv e2
    rw [Rels.ints ru] at hs
    exact ⟨a, ns, rfl, hs, fun ns' p h1 h2 hp => k _ _ (q ns' h1 h2) _ _ (.lst upd_same (w.ofree hp) (Rels.of_ints ns')) (w.new hp) (Sp'.new w hp)⟩
/-- sorted(texts), any number of them -/
theorem cr_sortS : CallR X (.builtin "sorted") (fun vs H Q => ∃ (a : Addr) (xs : List Str), vs = [V.ref a] ∧ SqL X.K H a (xs.map V.str) ∧ ∀ (ys : List Str) (p : Addr), ys.Perm xs → sortedS ys = true → H p = none → Q (.ref p) (upd H p (.lst (ys.map V.str)))) := by
  intro pins s σ H vs us Q I r h
  obtain ⟨a, xs, rfl, hs, q⟩ := h
  obtain ⟨its, rv, hl, hz⟩ := I.list hs
  rw [Vals.ref1 r]
  rw [List.length_map] at hz
  have hlen1 := rv.length
  rw [List.length_map] at hlen1
  refine PyProof.Rows.sorted_strsAny hl.isList (strs_of_vals rv) (by rw [← hlen1]; exact hz) fun out ys h1 h2 h3 => ?_
  obtain ⟨ep, he'⟩ := PyProof.Rows.sortedAll_at s.heap its out
  exact ⟨.ref _, upd H (s.heap.objs.size + 1) (.lst (ys.map V.str)), I.laid (t' := s.toks) (fun _ _ => PyProof.Rows.sortedAll_old) (Nat.le_succ _) ⟨by rw [List.length_map, h2.length_eq]; exact hz, out.toList, ep, vals_of_strs h1, he'⟩, rfl, q ys _ h2 h3 (I.hok.fresh (Nat.le_succ _))⟩
end
end Y
/-! Y9: more built-in calls; calls of defs, methods, classes of one's own; what a def promises. -/
namespace Y
open PySem PySem.Spec PyProof.Rows L2

section
variable {X : Cx} {W : WX} {e : Expr} {es : List Expr} {tA : DA} {te : DE} {pos p : Pos} {x : Str}
/-- sorted(texts): a list -/
def cSortS : RCd := fun xs G Q => ∃ (d : D) (ss : List (List Nat)), xs = [d] ∧ seqL G d = some (ss.map D.str) ∧ ∀ ys : List (List Nat), ys.Perm ss → sortedS (ys.map St) = true → Q (.lst (ys.map D.str)) G
theorem St_tl (x : Str) : St x.cps.toList = x := by cases x; rfl
theorem map_St_tl (ys : List Str) : (ys.map fun x => x.cps.toList).map St = ys := by
  rw [List.map_map]
  have e : (St ∘ fun x : Str => x.cps.toList) = id := by funext x; exact St_tl x
  rw [e, List.map_id]
theorem map_tl_St (ss : List (List Nat)) : (ss.map St).map (fun x => x.cps.toList) = ss := by
  rw [List.map_map]
  have e : ((fun x : Str => x.cps.toList) ∘ St) = id := by funext l; simp
  rw [e, List.map_id]
theorem cd_sortS : CallD X (.builtin "sorted") cSortS := calld_of (cr_sortS (X := X)) fun P ds G Qd xs H Q w rs ⟨d, ss, e1, e2, q⟩ k => by
  subst e1
  match xs, rs with
  | [v], .cons rv .nil =>
    obtain ⟨a, us, rfl, hs, ru⟩ := seqL_rel (K := X.K) w rv e2
    rw [Rels.strs ru] at hs
    refine ⟨a, ss.map St, rfl, hs, fun ys p h1 h2 hp => ?_⟩
    have h3 := h1.map (fun x : Str => x.cps.toList)
    rw [map_tl_St] at h3
    have r := Rels.of_strs (G := Ov P G) (H := upd H p (.lst (ys.map V.str))) (ys.map fun x => x.cps.toList)
    rw [map_St_tl] at r
    exact k _ _ (q _ h3 (by rw [map_St_tl]; exact h2)) _ _ (.lst upd_same (w.ofree hp) r) (w.new hp) (Sp'.new w hp)
/-- sorted(dict), its keys texts -/
def cSortD : RCd := fun xs G Q => ∃ (p : Addr) (kvs : List (DKey × D)) (ss : List (List Nat)), xs = [.ref p] ∧ G p = some (.dic kvs) ∧ kvs.map (·.1) = ss.map Sum.inr ∧ ∀ ys : List (List Nat), ys.Perm ss → sortedS (ys.map St) = true → Q (.lst (ys.map D.str)) G
theorem strs_at {vs : List Value} {ss : List Str} (h1 : vs.length = ss.length) (h2 : ∀ (i : Nat) (v : Value), vs[i]? = some v → ∃ z t, ss[i]? = some z ∧ v = Value.str z t) : StrsAre vs ss := by
  induction vs generalizing ss with
  | nil => cases ss with
    | nil => exact .nil
    | cons _ _ => cases h1
  | cons v vs ih => cases ss with
    | nil => cases h1
    | cons z ss =>
      obtain ⟨z', t, e, ev⟩ := h2 0 v (by simp)
      have e' : z = z' := by simpa using e
      subst ev
      subst e'
      refine .cons _ t (ih (by simpa using h1) fun i u hu => ?_)
      obtain ⟨z2, t2, e2, ev2⟩ := h2 (i + 1) u (by simpa using hu)
      exact ⟨z2, t2, by simpa using e2, ev2⟩
theorem cr_sortD (hc : X.calm = true) : CallR X (.builtin "sorted") (fun vs H Q => ∃ (a : Addr) (kvs : List (Key × V)) (ss : List Str), vs = [V.ref a] ∧ H a = some (.dK kvs) ∧ kvs.map (·.1) = ss.map Sum.inr ∧
    ∀ (ys : List Str) (p : Addr), ys.Perm ss → sortedS ys = true → H p = none → Q (.ref p) (upd H p (.lst (ys.map V.str)))) := by
  intro pins s σ H vs us Q I r h
  obtain ⟨a, kvs, ss, rfl, ha, hk, q⟩ := h
  rw [Vals.ref1 r]
  obtain ⟨z, lo, ws, rk, hd⟩ := (show ObjOk X.prog X.w H s.heap a (.dK kvs) from I.hok a _ ha)
  obtain ⟨ep, hat⟩ := hd.dictAt
  have hl : kvs.length = ws.length := Paired.length rk
  have hlen : ss.length = kvs.length := by
    have e := congrArg List.length hk
    rw [List.length_map, List.length_map] at e
    exact e.symm
  refine sorted_kdl_strs (ss := ss) (PySem.W.kdl_dict (knd := mixKind X.prog X.w) (kvs := ws) (ep := ep) lo) (I.ok.hd hc) hat (by rw [← hl]; exact z) (fun acc hacc => ?_) fun h' tk p out c ys k hp hg h1 h2 h3 => ?_
  · refine strs_at (by rw [Array.length_toList, hacc.1, ← hl, hlen]) fun i v hv => ?_
    obtain ⟨kk, y, hky, hi⟩ := hacc.2 i v (by rw [← Array.getElem?_toList]; exact hv)
    have e1 : (kvs.map (·.1))[i]? = some kk := by
      rw [KV.keys rk, List.getElem?_map, hky] <;> rfl
    rw [hk, List.getElem?_map] at e1
    cases e2 : ss[i]? with
    | none => rw [e2] at e1; cases e1
    | some zz =>
      rw [e2] at e1
      cases e1
      obtain ⟨t, rfl⟩ := (show ∃ t, v = Value.str zz t from keyIs_rel (k := .inr zz) (v := v) hi)
      exact ⟨zz, t, rfl, rfl⟩
  · have hn : H p = none := I.hok.fresh hp
    exact ⟨.ref p, upd H p (.lst (ys.map V.str)), I.laid (t' := tk) k hp ⟨by rw [List.length_map, h2.length_eq, hlen]; exact z, out.toList, c, vals_of_strs h1, hg⟩, rfl, q ys p h2 h3 hn⟩
/-! ### dict(pairs) -/
def dmerge (kvs more : List (DKey × D)) : List (DKey × D) := more.foldl (fun acc kv => dput acc kv.1 kv.2) kvs
theorem dmerge_rel {Γ : Gp} {H : Hp} : ∀ {more : List (DKey × D)} {rs : List (Key × V)} {kvs : List (DKey × D)} {ws : List (Key × V)}, Paired (PRel Γ H) more rs → Paired (PRel Γ H) kvs ws → Paired (PRel Γ H) (dmerge kvs more) (mergeK ws rs)
  | _, _, kvs, ws, .nil, h => h
  | p :: more, q :: rs, kvs, ws, .cons a b, h => by
    have h' := dput_rel (k := p.1) h a.2
    rw [a.1] at h'
    have z := dmerge_rel b h'
    exact z
def cDictP : RCd := fun xs G Q => ∃ (d : D) (kvs : List (DKey × D)), xs = [d] ∧ seqL G d = some (kvs.map fun p => D.tup [kD p.1, p.2]) ∧ ∀ p, G p = none → Q (.ref p) (G.set p (.dic (dmerge [] kvs)))
theorem kD_rel {Γ : Gp} {H : Hp} {k : DKey} {v : V} (r : Rel Γ H (kD k) v) : v = kV (kS k) := by
  cases k with
  | inl i => cases r; rfl
  | inr l => cases r; rfl
theorem pairs_rel {K : PySem.W.Frag} {Γ : Gp} {H : Hp} : ∀ {kvs : List (DKey × D)} {us : List V}, Rels Γ H (kvs.map fun p => D.tup [kD p.1, p.2]) us → ∃ (ps : List Addr) (ws : List (Key × V)), us = ps.map V.ref ∧ Paired (fun p kv => SqT K H p [kV kv.1, kv.2]) ps ws ∧ Paired (PRel Γ H) kvs ws
  | [], _, .nil => ⟨[], [], rfl, .nil, .nil⟩
  | p :: kvs, _, .cons (.tup (a := a) hH hG (.cons r1 (.cons r2 .nil))) b => by
    obtain ⟨ps, ws, e, h1, h2⟩ := pairs_rel (K := K) b
    have e1 := kD_rel r1
    subst e1
    exact ⟨a :: ps, (kS p.1, _) :: ws, by rw [e]; rfl, .cons (.inl (.inl hH)) h1, .cons ⟨rfl, r2⟩ h2⟩
theorem cd_dictP (hc : X.calm = true) : CallD X (.type "dict") cDictP := calld_of (call_dictP hc) fun P ds G Qd xs H Q w rs ⟨d, kvs, e1, e2, q⟩ k => by
  subst e1
  match xs, rs with
  | [v], .cons rv .nil =>
    obtain ⟨a, us, rfl, hs, ru⟩ := seqL_rel (K := X.K) w rv e2
    obtain ⟨ps, ws, e, h1, h2⟩ := pairs_rel (K := X.K) ru
    rw [e] at hs
    exact ⟨a, ps, ws, rfl, hs, h1, fun p hp => k _ _ (q p (w.free hp)) _ _ (.ref p) (w.newO hp ⟨_, upd_same, dmerge_rel (pair_stp (f := kS) h2 (Sp'.newO w hp).s) .nil⟩) (Sp'.newO w hp)⟩
/-! ### min, max of a row of numbers -/
theorem alike_ints (ns : List Int) : PySem.W.AlikeAll (ns.map PyData.int) := by
  refine ⟨fun x hx y hy => ?_, fun x hx e => ?_⟩
  · obtain ⟨i, _, rfl⟩ := List.mem_map.mp hx
    obtain ⟨j, _, rfl⟩ := List.mem_map.mp hy
    rfl
  · obtain ⟨i, _, rfl⟩ := List.mem_map.mp hx
    cases e
theorem reads_ints {h : Heap} : ∀ {ns : List Int} {us : List Value}, IntsAre us ns → ∃ as, ReadsAll h us (ns.map PyData.int) as
  | _, _, .nil => ⟨_, .nil⟩
  | _, _, .cons n t r => by
    obtain ⟨as, h1⟩ := reads_ints (h := h) r
    exact ⟨_, .cons (.int _ _) h1⟩
theorem depth_ints : ∀ ns : List Int, PyData.depthAll (ns.map PyData.int) = 0
  | [] => rfl
  | n :: r => by
    show max 0 (PyData.depthAll (r.map PyData.int)) = 0
    rw [depth_ints r]
    rfl
def rMin1 (K : PySem.W.Frag) : List V → Hp → VK → Prop := fun vs H Q => ∃ (a : Addr) (n : Int) (ns : List Int), vs = [V.ref a] ∧ (SqL K H a ((n :: ns).map V.int) ∨ SqT K H a ((n :: ns).map V.int)) ∧ Q (.int (ns.foldl min n)) H
def rMax1 (K : PySem.W.Frag) : List V → Hp → VK → Prop := fun vs H Q => ∃ (a : Addr) (n : Int) (ns : List Int), vs = [V.ref a] ∧ (SqL K H a ((n :: ns).map V.int) ∨ SqT K H a ((n :: ns).map V.int)) ∧ Q (.int (ns.foldl max n)) H
theorem reads_int_inv {h : Heap} {v : Value} {i : Int} {bs : List Addr} (r : Reads h v (.int i) bs) : ∃ t, v = .int i t := by
  cases r
  exact ⟨_, rfl⟩
theorem cr_min1 (hc : X.calm = true) (hu : X.A.units + 64 < cLine) : CallR X (.builtin "min") (rMin1 X.K) := by
  intro pins s σ H vs us Q I r h
  obtain ⟨a, n, ns, rfl, hs, q⟩ := h
  rw [Vals.ref1 r]
  rcases hs with hs | hs
  · obtain ⟨its, rv, hl, _⟩ := I.list hs
    obtain ⟨as, rd⟩ := reads_ints (h := s.heap) rv.ints
    refine PySem.W.min_list_data (x := .int n) (xs := ns.map PyData.int) (I.ok.hd hc) hl.isList rd (alike_ints (n :: ns)) (by rw [show (PyData.int n :: ns.map PyData.int) = (n :: ns).map PyData.int from rfl, depth_ints]; omega) fun i v h' tk bs hv hr hk => ?_
    rw [PySem.W.minD_ints] at hr
    obtain ⟨t, rfl⟩ := reads_int_inv hr
    exact ⟨.int _, H, I.kept hk, ⟨t, rfl⟩, q⟩
  · obtain ⟨its, rv, hl, _⟩ := I.tuple hs
    obtain ⟨as, rd⟩ := reads_ints (h := s.heap) rv.ints
    refine PySem.W.min_tuple_data (x := .int n) (xs := ns.map PyData.int) (I.ok.hd hc) hl rd (alike_ints (n :: ns)) (by rw [show (PyData.int n :: ns.map PyData.int) = (n :: ns).map PyData.int from rfl, depth_ints]; omega) fun i v h' tk bs hv hr hk => ?_
    rw [PySem.W.minD_ints] at hr
    obtain ⟨t, rfl⟩ := reads_int_inv hr
    exact ⟨.int _, H, I.kept hk, ⟨t, rfl⟩, q⟩
theorem cr_max1 (hc : X.calm = true) (hu : X.A.units + 64 < cLine) : CallR X (.builtin "max") (rMax1 X.K) := by
  intro pins s σ H vs us Q I r h
  obtain ⟨a, n, ns, rfl, hs, q⟩ := h
  rw [Vals.ref1 r]
  rcases hs with hs | hs
  · obtain ⟨its, rv, hl, _⟩ := I.list hs
    obtain ⟨as, rd⟩ := reads_ints (h := s.heap) rv.ints
    refine PySem.W.max_list_data (x := .int n) (xs := ns.map PyData.int) (I.ok.hd hc) hl.isList rd (alike_ints (n :: ns)) (by rw [show (PyData.int n :: ns.map PyData.int) = (n :: ns).map PyData.int from rfl, depth_ints]; omega) fun i v h' tk bs hv hr hk => ?_
    rw [PySem.W.maxD_ints] at hr
    obtain ⟨t, rfl⟩ := reads_int_inv hr
    exact ⟨.int _, H, I.kept hk, ⟨t, rfl⟩, q⟩
  · obtain ⟨its, rv, hl, _⟩ := I.tuple hs
    obtain ⟨as, rd⟩ := reads_ints (h := s.heap) rv.ints
    refine PySem.W.max_tuple_data (x := .int n) (xs := ns.map PyData.int) (I.ok.hd hc) hl rd (alike_ints (n :: ns)) (by rw [show (PyData.int n :: ns.map PyData.int) = (n :: ns).map PyData.int from rfl, depth_ints]; omega) fun i v h' tk bs hv hr hk => ?_
    rw [PySem.W.maxD_ints] at hr
    obtain ⟨t, rfl⟩ := reads_int_inv hr
    exact ⟨.int _, H, I.kept hk, ⟨t, rfl⟩, q⟩
def cMin1 : RCd := fun xs G Q => ∃ (d : D) (n : Int) (ns : List Int), xs = [d] ∧ seqR G d = some ((n :: ns).map D.int) ∧ Q (.int (ns.foldl min n)) G
def cMax1 : RCd := fun xs G Q => ∃ (d : D) (n : Int) (ns : List Int), xs = [d] ∧ seqR G d = some ((n :: ns).map D.int) ∧ Q (.int (ns.foldl max n)) G
theorem cd_min1 (hc : X.calm = true) (hu : X.A.units + 64 < cLine) : CallD X (.builtin "min") cMin1 := calld_of (cr_min1 hc hu) fun P ds G Qd xs H Q w rs ⟨d, n, ns, e1, e2, q⟩ k => by
  subst e1
  match xs, rs with
  | [v], .cons rv .nil =>
    obtain ⟨a, us, rfl, hs, ru⟩ := seqR_rel (K := X.K) w rv e2
    rw [Rels.ints ru] at hs
    exact ⟨a, n, ns, rfl, hs, k _ _ q _ _ (.int _) w Sp'.refl⟩
theorem cd_max1 (hc : X.calm = true) (hu : X.A.units + 64 < cLine) : CallD X (.builtin "max") cMax1 := calld_of (cr_max1 hc hu) fun P ds G Qd xs H Q w rs ⟨d, n, ns, e1, e2, q⟩ k => by
  subst e1
  match xs, rs with
  | [v], .cons rv .nil =>
    obtain ⟨a, us, rfl, hs, ru⟩ := seqR_rel (K := X.K) w rv e2
    rw [Rels.ints ru] at hs
    exact ⟨a, n, ns, rfl, hs, k _ _ q _ _ (.int _) w Sp'.refl⟩
/-! ### repr of a row -/
def isRow : D → Bool
  | .lst _ => true
  | .tup _ => true
  | _ => false
def cRepr : RCd := fun xs G Q => ∃ d, xs = [d] ∧ isRow (res G d) = true ∧ sh 60 (res G d) = true ∧ (py (res G d)).showable = true ∧ (py (res G d)).shown.length ≤ 10000000 ∧ Q (.str (py (res G d)).shown.cps.toList) G
theorem cr_repr (hu : X.A.units + 64 < cLine) (hg : X.A.guards = some []) : CallR X (.builtin "repr") (fun vs H Q => ∃ (a : Addr) (d : PyData), vs = [V.ref a] ∧ Dp X.K H (.ref a) d ∧ d.showable = true ∧ d.canLay0 = true ∧ d.depth ≤ 60 ∧ d.shown.length ≤ sizeLine ∧ Q (.str d.shown) H) := by
  intro pins s σ H vs us Q I r h
  obtain ⟨a, d, rfl, hd, h1, h2, h3, h4, q⟩ := h
  rw [Vals.ref1 r]
  obtain ⟨as, rd⟩ := Dp.reads I d (.ref a) (.ref a) hd rfl
  exact repr_of_reads' (h₀ := s.heap) rd h1 (PyData.noDict_hsm (PyData.hasDict_of_canLay d h2)) hg (by omega) (fun _ _ e => e) (fun h' u tk hk => ⟨.str _, H, I.kept hk, ⟨u, rfl⟩, q⟩) h4
theorem cd_repr (hu : X.A.units + 64 < cLine) (hg : X.A.guards = some []) : CallD X (.builtin "repr") cRepr := calld_of (cr_repr hu hg) fun P ds G Qd xs H Q w rs ⟨d, e1, e2, e3, e4, e5, q⟩ k => by
  subst e1
  match xs, rs with
  | [v], .cons rv .nil =>
    have hd := res_dp (K := X.K) w rv e3
    obtain ⟨l1, l2⟩ := sh_lay e3
    have hv : ∃ a, v = .ref a := by
      cases d with
      | tup ds => cases rv; exact ⟨_, rfl⟩
      | lst ds => cases rv; exact ⟨_, rfl⟩
      | ref p => cases rv; exact ⟨_, rfl⟩
      | _ => cases e2
    obtain ⟨a, rfl⟩ := hv
    have f := k _ _ q (.str _) H (.str _) w Sp'.refl
    rw [St_tl] at f
    exact ⟨a, _, rfl, hd, e4, l1, l2, lim_le e5, f⟩
/-! ### isinstance, of built-in types -/
def tyName (G : Gp) : D → Option String
  | .non => some "NoneType"
  | .bl _ => some "bool"
  | .int _ => some "int"
  | .str _ => some "str"
  | .tup _ => some "tuple"
  | .lst _ => some "list"
  | .scr _ => some "list"
  | .ref p => match G p with
    | some (.lst _) => some "list"
    | some (.dic _) => some "dict"
    | _ => none
  | _ => none
def subT (a b : String) : Bool := a == b || (a == "bool" && b == "int")
def cIsi : RCd := fun xs G Q => ∃ d T a, xs = [d, .ty T] ∧ (T = "str" ∨ T = "int" ∨ T = "bool" ∨ T = "tuple" ∨ T = "list" ∨ T = "dict") ∧ tyName G d = some a ∧ Q (.bl (subT a T)) G
def tyL : List String := ["NoneType", "bool", "int", "str", "tuple", "list", "dict"]
theorem kit_all (K : PySem.W.Frag) : ∀ a ∈ tyL, ∀ T ∈ tyL, T ≠ "NoneType" → PySem.W.kitOne K (.type a) (.type T) = some (subT a T) := by
  intro a ha T hT hn
  simp only [tyL, List.mem_cons, List.not_mem_nil, or_false] at ha hT
  rcases ha with rfl | rfl | rfl | rfl | rfl | rfl | rfl <;> rcases hT with rfl | rfl | rfl | rfl | rfl | rfl | rfl <;> first | exact absurd rfl hn | kernel_rfl
theorem cd_isi : CallD X (.builtin "isinstance") cIsi := calld_of (call_isi (X := X)) fun P ds G Qd xs H Q w rs ⟨d, T, b, e1, hT, e2, q⟩ k => by
  subst e1
  match xs, rs with
  | [v, u], .cons rv (.cons ru .nil) =>
    cases ru
    have hT2 : T ∈ tyL ∧ T ≠ "NoneType" := by
      rcases hT with rfl | rfl | rfl | rfl | rfl | rfl <;> exact ⟨by decide, by decide⟩
    have fin : ∀ {b : String}, b ∈ tyL → TyX X.K H v (.type b) → tyName G d = some b → rIsi X.K [v, .ty T] H Q := fun {b'} hb ht e => by
      rw [e2] at e
      cases e
      exact ⟨v, .ty T, .type b, .type T, subT b T, rfl, .ty T, ht, kit_all X.K b hb T hT2.1 hT2.2, k _ _ q _ _ (.bl _) w Sp'.refl⟩
    cases d with
    | non => cases rv; exact fin (b := "NoneType") (by decide) (.base .non) rfl
    | bl y => cases rv; exact fin (b := "bool") (by decide) (.base (.bl y)) rfl
    | int i => cases rv; exact fin (b := "int") (by decide) (.base (.int i)) rfl
    | str l => cases rv; exact fin (b := "str") (by decide) (.base (.str _)) rfl
    | tup ts => cases rv with
      | tup hH hG rs => exact fin (b := "tuple") (by decide) (.base (.tup hH)) rfl
    | lst ts => cases rv with
      | lst hH hG rs => exact fin (b := "list") (by decide) (.base (.lst hH)) rfl
    | scr ts => cases rv with
      | scr hH hG =>
        rcases hH with hH | ⟨o, hH⟩
        · exact fin (b := "list") (by decide) (.base (.lst hH)) rfl
        · exact fin (b := "list") (by decide) (.base (.frz hH)) rfl
    | ref p =>
      cases rv
      have e2' : (match G p with
        | some (.lst _) => some "list"
        | some (.dic _) => some "dict"
        | _ => none) = some b := e2
      cases eG : G p with
      | none => rw [eG] at e2'; cases e2'
      | some o =>
        rw [eG] at e2'
        cases o with
        | lst es =>
          obtain ⟨us, hH, _⟩ := w.at eG
          exact fin (b := "list") (by decide) (.base (.lst hH)) (e2.trans e2'.symm)
        | dic es =>
          obtain ⟨us, hH, _⟩ := w.at eG
          exact fin (b := "dict") (by decide) (.base (.dK hH)) (e2.trans e2'.symm)
        | _ => cases e2'
    | ty n => cases e2
/-! ### calls of one's own -/
abbrev DSp := List D → Gp → DX → DK → Prop
/-- a promise over trees, as the base has it -/
def spOf (t : DSp) : Sp := fun vs H Q E => ∃ P ds G ex Qd, Wd P G H ∧ Rls P G H ds vs ∧ t ds G ex Qd ∧ KOk P G H Qd Q ∧ ∀ c G', ex c G' → ∀ od H', Wd P G' H' → Sp' P G H G' H' → E c od H'
/-- what a body does, its parameters n of n + m names -/
def fnD (n m : Nat) (body : DS) : DSp := fun ds G ex Q => ds.length = n ∧ body { nx := fun _ G' => Q .non G', rt := Q, ex := ex } (ds.map some ++ List.replicate m none) G
structure RmG (k : Nat) (A : Around) : Prop where
  r : Room k A
  g : A.guards = some []
structure FnY (P : Program) (w : World) (K : PySem.W.Frag) (mg : Str → Option Value) (base : Heap) (k : Nat) (f : Addr) (fd : FuncData) (ps : List Str) (sp : Sp) : Prop where
  len : ∀ vs H Q E, sp vs H Q E → vs.length = ps.length
  run : ∀ (A : Around) (outer : List Env) (s : Shared) (H : Hp) (args : Args) (us : List Value) (vs : List V) (Q : VK) (E : XK), RmG k A → Env0 P w K mg base A outer s H → BindsTo s fd args (ps.zip us) → Vals vs us → sp vs H Q E →
    codeAny (model P w) A (.call (.ref f) args) (CR (L2.CX P w) outer P w H s Q E) s
end
end Y
/-! Y10: calls of defs, methods, classes of one's own. -/
namespace Y
open PySem PySem.Spec PyProof.Rows L2

section
variable {X : Cx} {W : WX} {k : Nat} {f C : Addr} {fd : FuncData} {ps : List Str} {ds : List Value} {dvs : List V} {x m : Str} {p pos apos : Pos} {e o : Expr} {es : List Expr} {te : DE} {tA : DA} {t : DSp}
theorem run_fnY {sp : Sp} {E : XK} {pins : List (Addr × Obj)} {σ : L2.St} {H : Hp} {s : Shared} {Q : VK} {us : List Value} {vs : List V} (F : FnY X.prog X.w X.K X.mg X.base k f fd ps sp) (hr : RmG k X.A) (hb : Binds X.K fd ps ds) (hd : Vals dvs ds) (hx : PassesAt (L2.CX X.prog X.w) X σ E)
    (I : L2.Inv X pins σ H s) (r : Vals vs us) (h : sp (vs ++ dvs) H Q E) : wpAny (model X.prog X.w) X.A (call (.ref f) us) (EP X pins σ Q) X.xe s := by
  have r2 : Vals (vs ++ dvs) (us ++ ds) := r.append hd
  have hl : (us ++ ds).length = ps.length := by rw [← r2.length]; exact F.len _ _ _ _ h
  refine wpAny_call (codeAny_mono (F.run X.A X.stack s H ⟨us, []⟩ (us ++ ds) (vs ++ dvs) Q E hr I.env0 (hb s us I.kIn hl) r2 h) fun r s' hq => ?_)
  match r, hq with
  | .error e, hq => exact hx pins H s e s' I hq
  | .ok (.ret u), hq => exact I.after hq
/-- f(e, ..) -/
def dCall (t : DSp) (tA : DA) : DE := fun σ G ex Q => tA σ G ex fun ds G1 => t ds G1 ex Q
theorem call_lift {t : DSp} {tA : DA} : ∀ τ H Q, liftE W (dCall t tA) τ H Q → tCallSD (spOf t) [] (WE W) (liftA W tA) τ H Q := fun τ H Q ⟨P, σ, G, ex, Qd, a, x, h, k⟩ =>
  ⟨P, σ, G, ex, _, a, x, h, fun ds G1 h1 vs H1 rs a1 s1 => by
    show spOf t (vs ++ []) H1 Q (WE W τ)
    rw [List.append_nil]
    exact ⟨P, ds, G1, ex, Qd, a1, rs, h1, KOk.to k s1, x.to s1⟩⟩
theorem me_call (F : FnY X.prog X.w X.K X.mg X.base k f fd ps (spOf t)) (hr : RmG k X.A) (hg : Gl X x) (hm : X.mg x = some (.ref f)) (hk : PySem.W.keepIn X.K (.ref f) = true) (hb : Binds X.K fd ps []) (tk : Takes X W)
    (ha : MA X W (e :: es) tA) (hdb : (x == ("__debug__" : Str)) = false) (he : starEach (e :: es) X.env = (false, eval e X.env) :: starEach es X.env) (hpl : (backTo pos (starEach es X.env)).any (·.1) = false) :
    ME X W (.Call (.Name x p) (e :: es) [] pos) (dCall t tA) := by
  refine ⟨PE.imp (t := tCallSD (spOf t) [] (WE W) (liftA W tA)) ⟨fun pins s σ H Q I h => ?_⟩ call_lift⟩
  refine wpAny_Call_Name_kw (ld_glob I hg hm ?_ hdb)
  refine PySem.W.callWith_K (h₀ := X.base) I.ok.mod.kin hk (thn (ha.pa.run pos pins s σ H _ I h) fun us s1 ⟨vs, H1, I1, r, q⟩ => ⟨I1.kIn, ?_⟩) he hpl
  exact run_fnY F hr hb .nil (passAt tk σ) I1 r q
/-- f() -/
theorem me_call0 (F : FnY X.prog X.w X.K X.mg X.base k f fd ps (spOf t)) (hr : RmG k X.A) (hg : Gl X x) (hm : X.mg x = some (.ref f)) (hk : PySem.W.keepIn X.K (.ref f) = true) (hb : Binds X.K fd ps []) (tk : Takes X W)
    (hdb : (x == ("__debug__" : Str)) = false) : ME X W (.Call (.Name x p) [] [] pos) (dCall t dNil) := by
  refine ⟨PE.imp (t := tCallSD (spOf t) [] (WE W) tNil) ⟨fun pins s σ H Q I h => ?_⟩ fun τ H Q ⟨P, σ, G, ex, Qd, a, x, h, k⟩ => ⟨P, [], G, ex, Qd, a.wd, .nil, h, k, x⟩⟩
  refine wpAny_Call_Name_kw (ld_glob I hg hm ?_ hdb)
  exact PySem.W.callWith_K0 I.kIn hk (run_fnY (us := []) (vs := []) F hr hb .nil (passAt tk σ) I .nil h)
/-- o.m(e, ..), o an instance of the class at C -/
def dMeth (C : Addr) (m : Str) (t : DSp) (te : DE) (tA : DA) : DE := fun σ G ex Q => te σ G ex fun x G1 => ∃ a fs, x = .ref a ∧ G1 a = some (.ins C fs) ∧ fs.lookup m = none ∧ tA σ G1 ex fun ds G2 => t (.ref a :: ds) G2 ex Q
def tMethS (C : Addr) (m : Str) (sp : Sp) (E : L2.St → XK) (ta : TE) (t : TA) : TE := fun σ H Q => ta σ H fun x H1 => ∃ a dx fs, x = .ref a ∧ H1 a = some (.ins C dx fs) ∧ fs.lookup m = none ∧ t σ H1 fun vs H2 => sp (x :: vs) H2 Q (E σ)
theorem meth_lift {t : DSp} {te : DE} {tA : DA} {C : Addr} {m : Str} {tA' : TA} (hA : ∀ τ H Q, liftA W tA τ H Q → tA' τ H Q) : ∀ τ H Q, liftE W (dMeth C m t te tA) τ H Q → tMethS C m (spOf t) (WE W) (liftE W te) tA' τ H Q := fun τ H Q ⟨P, σ, G, ex, Qd, a, x, h, k⟩ =>
  ⟨P, σ, G, ex, _, a, x, h, fun d G1 ⟨b, fs, e1, e2, e3, h1⟩ v H1 r a1 s1 => by
    subst e1
    cases r
    obtain ⟨dx, ws, hH, rs⟩ := a1.at e2
    exact ⟨b, dx, ws, rfl, hH, fld_none rs e3, hA _ _ _ ⟨P, σ, G1, ex, _, a.to a1 s1, x.to s1, h1, fun ds G2 h2 vs H2 rs2 a2 s2 => ⟨P, .ref b :: ds, G2, ex, Qd, a2, .cons (.ref b) rs2, h2, KOk.to k (s1.trans s2), x.to (s1.trans s2)⟩⟩⟩⟩
theorem me_meth {pl : Sem Bool} (ho : ME X W o te) (c : Cls X.K C) (hm : Meth X.K C m f) (F : FnY X.prog X.w X.K X.mg X.base k f fd ps (spOf t)) (hr : RmG k X.A) (hb : Binds X.K fd ps []) (tk : Takes X W) (ha : MA X W (e :: es) tA)
    (hst : starEach (e :: es) X.env = (false, eval e X.env) :: starEach es X.env) (hpl : (backTo pos (starEach es X.env)).any (·.1) = false)
    (ht : eval (.Call (.Attribute o m apos) (e :: es) [] pos) X.env = (do
      let ov ← eval o X.env
      standAt apos.atName
      let (f, first) ← holding [ov] (getMethod ov m pl)
      callWith pos f first (backTo pos (starEach (e :: es) X.env)) (backToKw pos (keywordEach [] X.env)))) :
    ME X W (.Call (.Attribute o m apos) (e :: es) [] pos) (dMeth C m t te tA) := by
  refine ⟨PE.imp (t := tMethS C m (spOf t) (WE W) (liftE W te) (liftA W tA)) ⟨fun pins s σ H Q I h => ?_⟩ (meth_lift fun _ _ _ q => q)⟩
  refine PySem.W.methodCall_KW (pl := pl) (thn (ho.pe.run pins s σ H _ I h) fun u s1 ⟨x, H1, I1, rx, a, dx, fs, ex, ea, l, q⟩ => ?_) ht
  subst ex
  obtain rfl : u = Value.ref a := rx
  refine getmeth_ok I1 ea c hm l ?_
  refine PySem.W.callWith_K (first := [.ref a]) (h₀ := X.base) I.ok.mod.kin hm.kp (thn (ha.pa.run pos pins s1 σ H1 _ I1 q) fun us s2 ⟨vs, H2, I2, r, q2⟩ => ⟨I2.kIn, ?_⟩) hst hpl
  exact run_fnY (us := .ref a :: us) (vs := .ref a :: vs) F hr hb .nil (passAt tk σ) I2 (.cons rfl r) (by rw [List.append_nil]; exact q2)
theorem me_meth0 {pl : Sem Bool} (ho : ME X W o te) (c : Cls X.K C) (hm : Meth X.K C m f) (F : FnY X.prog X.w X.K X.mg X.base k f fd ps (spOf t)) (hr : RmG k X.A) (hb : Binds X.K fd ps []) (tk : Takes X W)
    (ht : eval (.Call (.Attribute o m apos) [] [] pos) X.env = (do
      let ov ← eval o X.env
      standAt apos.atName
      let (f, first) ← holding [ov] (getMethod ov m pl)
      callWith pos f first (backTo pos (starEach [] X.env)) (backToKw pos (keywordEach [] X.env)))) :
    ME X W (.Call (.Attribute o m apos) [] [] pos) (dMeth C m t te dNil) := by
  refine ⟨PE.imp (t := tMethS C m (spOf t) (WE W) (liftE W te) tNil) ⟨fun pins s σ H Q I h => ?_⟩ (meth_lift fun _ _ _ ⟨P, σ, G, ex, Qd, a, x, t, k⟩ => k _ _ t _ _ .nil a.wd Sp'.refl)⟩
  refine PySem.W.methodCall_KW (pl := pl) (thn (ho.pe.run pins s σ H _ I h) fun u s1 ⟨x, H1, I1, rx, a, dx, fs, ex, ea, l, q⟩ => ?_) ht
  subst ex
  obtain rfl : u = Value.ref a := rx
  refine getmeth_ok I1 ea c hm l ?_
  exact PySem.W.callWith_K0 (first := [.ref a]) I1.kIn hm.kp (run_fnY (us := [.ref a]) (vs := [.ref a]) F hr hb .nil (passAt tk σ) I1 (.cons rfl .nil) q)
/-- C(e, ..): a new instance -/
def dMake (C : Addr) (t : DSp) (tA : DA) : DE := fun σ G ex Q => tA σ G ex fun ds G1 => ∀ x, G1 x = none → t (.ref x :: ds) (G1.set x (.ins C [])) ex fun d G2 => d = .non ∧ Q (.ref x) G2
def tMakeS (C : Addr) (sp : Sp) (E : L2.St → XK) (t : TA) : TE := fun σ H Q => t σ H fun vs H1 => ∀ x dx, H1 x = none → H1 dx = none → dx ≠ x → sp (.ref x :: vs) (upd (upd H1 dx (.own x)) x (.ins C dx [])) (fun v H2 => v = .non ∧ Q (.ref x) H2) (E σ)
theorem make_lift {t : DSp} {tA : DA} {C : Addr} {tA' : TA} (hA : ∀ τ H Q, liftA W tA τ H Q → tA' τ H Q) : ∀ τ H Q, liftE W (dMake C t tA) τ H Q → tMakeS C (spOf t) (WE W) tA' τ H Q := fun τ H Q ⟨P, σ, G, ex, Qd, a, x, h, k⟩ =>
  hA _ _ _ ⟨P, σ, G, ex, _, a, x, h, fun ds G1 h1 vs H1 rs a1 s1 y dx hy hdx hne => by
    have w1 := a1.new (o := .own y) hdx
    have t1 : Sp' P G1 H1 G1 (upd H1 dx (.own y)) := Sp'.new a1 hdx
    have hy1 : upd H1 dx (.own y) y = none := by rw [upd_ne (fun z => hne z.symm)]; exact hy
    have t2 : Sp' P G1 (upd H1 dx (.own y)) (G1.set y (.ins C [])) (upd (upd H1 dx (.own y)) y (.ins C dx [])) := Sp'.newO w1 hy1
    have w2 : Wd P (G1.set y (.ins C [])) (upd (upd H1 dx (.own y)) y (.ins C dx [])) := w1.newO hy1 ⟨dx, [], upd_same, .nil⟩
    have t12 := t1.trans t2
    exact ⟨P, .ref y :: ds, _, ex, _, w2, .cons (.ref y) (rs.stp t12.s), h1 y (a1.free hy), fun d G2 ⟨hd, q⟩ v H2 rv w3 s3 => by
      subst hd
      cases rv
      exact ⟨rfl, k _ _ q _ _ (.ref y) w3 ((s1.trans t12).trans s3)⟩, x.to (s1.trans t12)⟩⟩
theorem RmG.make {k : Nat} {A : Around} (r : RmG (k + 1) A) (C : Addr) (us : List Value) : RmG k (A.under (.builtin "type.__call__" ⟨.ref C :: us, []⟩)) :=
  ⟨r.r.make C us [], by
    have e : (A.under (.builtin "type.__call__" ⟨.ref C :: us, []⟩)).guards = A.guards := by
      first | rfl | simp [Around.under, Code.isGuard, guardIds, Code.guards]
    rw [e]
    exact r.g⟩
theorem run_makeY {sp : Sp} {E : XK} {pins : List (Addr × Obj)} {σ : L2.St} {H : Hp} {s : Shared} {Q : VK} {us : List Value} {vs : List V} (M : Mk X.K C f) (F : FnY X.prog X.w X.K X.mg X.base k f fd ps sp) (hr : RmG (k + 1) X.A) (hb : Binds X.K fd ps [])
    (hx : PassesAt (L2.CX X.prog X.w) X σ E) (I : L2.Inv X pins σ H s) (r : Vals vs us)
    (h : ∀ x dx, H x = none → H dx = none → dx ≠ x → sp (.ref x :: vs) (upd (upd H dx (.own x)) x (.ins C dx [])) (fun v H2 => v = .non ∧ Q (.ref x) H2) E) :
    wpAny (model X.prog X.w) X.A (call (.ref C) us) (EP X pins σ Q) X.xe s := by
  have hq := h (s.heap.objs.size + 1) s.heap.objs.size (I.hok.fresh (Nat.le_succ _)) (I.hok.fresh (Nat.le_refl _)) (Nat.ne_of_lt (Nat.lt_succ_self _))
  have I2 := L2.Inv.made (C := C) I
  have r2 : Vals (V.ref (s.heap.objs.size + 1) :: vs) (Value.ref (s.heap.objs.size + 1) :: us) := .cons rfl r
  have hl : (Value.ref (s.heap.objs.size + 1) :: us).length = ps.length := by
    have e := r2.length
    rw [F.len _ _ _ _ hq] at e
    exact e.symm
  have hbd := hb _ (Value.ref (s.heap.objs.size + 1) :: us) I2.kIn (by rw [List.append_nil]; exact hl)
  rw [List.append_nil] at hbd
  refine wpAny_call (make_map (f := f) I.kIn M.makes M.init (beq_iff_eq.mp M.fn) (codeAny_mono (F.run _ X.stack _ _ ⟨Value.ref (s.heap.objs.size + 1) :: us, []⟩ (Value.ref (s.heap.objs.size + 1) :: us) _ _ E (hr.make C us)
    (I2.env0.make C us []) hbd r2 hq) fun r s' hq' => ?_))
  match r, hq' with
  | .error e, hq' => exact hx pins _ _ e s' I2 hq'
  | .ok (.ret u), hq' =>
    obtain ⟨v, H', I3, rv, ev, q3⟩ := I2.after hq'
    subst ev
    exact ⟨rv, ⟨V.ref (s.heap.objs.size + 1), H', I3, rfl, q3⟩⟩
theorem me_make (M : Mk X.K C f) (F : FnY X.prog X.w X.K X.mg X.base k f fd ps (spOf t)) (hr : RmG (k + 1) X.A) (hg : Gl X x) (hm : X.mg x = some (.ref C)) (hb : Binds X.K fd ps []) (tk : Takes X W)
    (ha : MA X W (e :: es) tA) (hdb : (x == ("__debug__" : Str)) = false) (he : starEach (e :: es) X.env = (false, eval e X.env) :: starEach es X.env) (hpl : (backTo pos (starEach es X.env)).any (·.1) = false) :
    ME X W (.Call (.Name x p) (e :: es) [] pos) (dMake C t tA) := by
  refine ⟨PE.imp (t := tMakeS C (spOf t) (WE W) (liftA W tA)) ⟨fun pins s σ H Q I h => ?_⟩ (make_lift fun _ _ _ q => q)⟩
  refine wpAny_Call_Name_kw (ld_glob I hg hm ?_ hdb)
  refine PySem.W.callWith_K (h₀ := X.base) I.ok.mod.kin M.kp (thn (ha.pa.run pos pins s σ H _ I h) fun us s1 ⟨vs, H1, I1, r, q⟩ => ⟨I1.kIn, ?_⟩) he hpl
  exact run_makeY M F hr hb (passAt tk σ) I1 r q
theorem me_make0 (M : Mk X.K C f) (F : FnY X.prog X.w X.K X.mg X.base k f fd ps (spOf t)) (hr : RmG (k + 1) X.A) (hg : Gl X x) (hm : X.mg x = some (.ref C)) (hb : Binds X.K fd ps []) (tk : Takes X W)
    (hdb : (x == ("__debug__" : Str)) = false) : ME X W (.Call (.Name x p) [] [] pos) (dMake C t dNil) := by
  refine ⟨PE.imp (t := tMakeS C (spOf t) (WE W) tNil) ⟨fun pins s σ H Q I h => ?_⟩ (make_lift fun _ _ _ ⟨P, σ, G, ex, Qd, a, x, t, k⟩ => k _ _ t _ _ .nil a.wd Sp'.refl)⟩
  refine wpAny_Call_Name_kw (ld_glob I hg hm ?_ hdb)
  exact PySem.W.callWith_K0 I.kIn M.kp (run_makeY (us := []) M F hr hb (passAt tk σ) I .nil h)
end
end Y
/-! Y11: a def by its body; the law's end. -/
namespace Y
open PySem PySem.Spec PyProof.Rows L2

theorem RmG.deeper {k : Nat} {A : Around} (r : RmG (k + 1) A) (env : Env) : RmG k (A.deeper env) :=
  ⟨r.r.deeper env, by
    have e : (A.deeper env).guards = A.guards := by first | rfl | simp [Around.deeper]
    rw [e]
    exact r.g⟩
theorem RmG.mono {j k : Nat} {A : Around} (r : RmG k A) (h : j ≤ k) : RmG j A := ⟨r.r.mono h, r.g⟩
theorem CxY.of {X : Cx} {k : Nat} (hc : X.calm = true) (r : RmG k X.A) (nd : X.N.Nodup) : CxY X := ⟨hc, r.r.units, r.g, nd⟩
theorem start_eq {N : List Str} {vs : List V} {ds : List D} {n m : Nat} {P : Pv} {G : Gp} {H : Hp} (hN : N.length = n + m) (hd : ds.length = n) (w : Wd P G H) (r : Rls P G H ds vs) : At P (ds.map some ++ List.replicate m none) G (L2.start N vs) H := by
  have hl := r.len
  refine ⟨w, fun i d e => ?_, by unfold L2.start; simp; omega⟩
  unfold L2.start
  by_cases hi : i < ds.length
  · rw [List.getElem?_append_left (by simpa using hi), List.getElem?_map] at e
    cases q : ds[i]? with
    | none => rw [q] at e; cases e
    | some d' =>
      rw [q] at e
      cases e
      obtain ⟨v, hv, rv⟩ := r.get q
      exact ⟨v, by rw [List.getElem?_append_left (by simpa using hl ▸ hi), List.getElem?_map, hv]; rfl, rv⟩
  · rw [List.getElem?_append_right (by simpa using hi), List.getElem?_replicate] at e
    split at e <;> cases e
section
variable {P : Program} {w : World} {K : PySem.W.Frag} {mg : Str → Option Value} {base : Heap} {x qual : Str} {params : Arguments} {body : List Stmt} {scope : Scope} {f : Addr} {fd : FuncData} {N ps : List Str} {k : Nat}
/-- a def, by its body, as the base has it; here with what is guarded told -/
theorem fnY_base {sp : Sp} (F : FunD K x qual params body scope [] [] f fd) (S : FnScope N ps scope) (len : ∀ vs H Q E, sp vs H Q E → vs.length = ps.length)
    (hbody : ∀ (cdv : Value) (A : Around) (outer : List Env) (s : Shared) (H : Hp) (vs : List V) (Q : VK) (E : XK), RmG k (A.deeper (envOfC qual scope s.heap.objs.size f cdv)) → sp vs H Q E →
      ∃ t, PSs (cxOf (L2.CX P w) P w K mg base N qual scope f cdv A outer s H E) body t ∧ t { nx := fun _ H' => Q .non H', rt := Q } (L2.start N vs) H) : FnY P w K mg base (k + 1) f fd ps sp := by
  obtain ⟨oc, od, dV, kV, doc, pm, an, cdv, ct, osl, rfl, lk, hcd, _, _⟩ := F.ex
  refine ⟨len, fun A outer s H args us vs Q E hr e0 hb r hsp => ?_⟩
  have KX : K.In s.heap := e0.mod.kin.keeps fun b o e => (e0.bs b o e).1
  have kinds : ∀ y ∈ ps.zip us, scope.names.lookup y.1 = some .local ∨ (scope.names.lookup y.1 = some .cell ∧ ((cellsFrom (s.heap.objs.size + 1) scope.names []).lookup y.1).isSome = true) := fun y hy =>
    (S.par y.1 (List.of_mem_zip (show (y.1, y.2) ∈ ps.zip us from hy)).1).imp id fun q => ⟨q, PySem.W.cellsFrom_some _ _ _ (.inl q)⟩
  have lim : s.heap.NoLimit := e0.mod.nolimit.keeps fun b o e => (e0.bs b o e).1
  have hl := len _ _ _ _ hsp
  refine codeAny_call_function hr.r.depth (KX _ _ lk) rfl S.co S.gen rfl (PySem.W.codeRec_of KX hcd) (hb _ _ _ _ ?_)
  refine wpAny_newFunctionEnv_cells S.kind kinds fun env he s1 ic => ?_
  subst he
  refine ⟨lim.keeps ic.toInCall.keep, codeAny_func ?_⟩
  obtain ⟨t, ht, hq⟩ := hbody cdv A outer s H vs Q E (hr.deeper _) hsp
  have I : L2.Inv (cxOf (L2.CX P w) P w K mg base N qual scope f cdv A outer s H E) [] (L2.start N vs) H s1 := inv_start S hr.r.hd e0 hl r ic
  refine wpAny_mono (ht.run [] s1 (L2.start N vs) H _ I hq) (fun fl s' hs => ?_) fun e s' hs => hs
  have fin : ∀ {σ' : L2.St} {H' : Hp} {v : V} {u : Value}, L2.Inv (cxOf (L2.CX P w) P w K mg base N qual scope f cdv A outer s H E) [] σ' H' s' → RelV v u → Q v H' → CE outer P w H s Q u s' :=
    fun {σ' H' v u} J rv q => ⟨v, H', J.os, J.bare, J.base, J.hok, rv, q⟩
  cases fl with
  | ret u =>
    obtain ⟨v, σ', H', J, rv, q⟩ := hs
    exact fin J rv q
  | next =>
    obtain ⟨σ', H', J, q⟩ := hs
    exact fin (v := V.non) (u := Value.none) J rfl q
  | brk =>
    obtain ⟨_, _, _, q⟩ := hs
    exact False.elim q
  | cont =>
    obtain ⟨_, _, _, q⟩ := hs
    exact False.elim q
/-- over trees -/
theorem fnY_of {t : DS} {n m : Nat} (F : FunD K x qual params body scope [] [] f fd) (S : FnScope N ps scope) (hn : ps.length = n) (hm : N.length = n + m)
    (hbody : ∀ (cdv : Value) (A : Around) (outer : List Env) (s : Shared) (H : Hp) (E : XK), RmG k (A.deeper (envOfC qual scope s.heap.objs.size f cdv)) →
      MSs (cxOf (L2.CX P w) P w K mg base N qual scope f cdv A outer s H E) (fun c d _ H' => E c d H') body t) : FnY P w K mg base (k + 1) f fd ps (spOf (fnD n m t)) := by
  refine fnY_base F S (fun vs H Q E ⟨Pv', ds, G, ex, Qd, w', rs, ⟨hl, _⟩, _⟩ => by rw [← rs.len, hl, hn]) fun cdv A outer s H vs Q E hr ⟨Pv', ds, G, ex, Qd, w', rs, ⟨hl, ht⟩, kk, hx⟩ => ⟨_, (hbody cdv A outer s H E hr).ps, ?_⟩
  exact ⟨Pv', _, G, { nx := fun _ G' => Qd .non G', rt := Qd, ex := ex }, start_eq hm hl w' rs, ⟨fun σ' G' q τ' H' a' s' => kk _ _ q _ _ .non a'.wd s', fun d G' q v H' r a s' => kk _ _ q _ _ r a s', fun _ _ z => z.elim, fun _ _ z => z.elim, fun c G' q od τ' H' a s' => hx c G' q od H' a s'⟩, ht⟩
end

/-! ### the hook: as HeadHook2's, and no list among what is written -/
def noLst (K : PySem.W.Frag) : Bool := K.all fun p => !(p.2.cls == .type "list")
theorem look_mem {a : Addr} {o : Obj} : ∀ {K : List (Addr × Obj)}, K.lookup a = some o → (a, o) ∈ K
  | [], e => by cases e
  | (b, u) :: K, e => by
    by_cases h : a = b
    · have hb : (a == b) = true := beq_iff_eq.mpr h
      simp only [List.lookup, hb] at e
      cases e
      subst h
      exact List.mem_cons_self
    · have hb : (a == b) = false := beq_eq_false_iff_ne.mpr h
      simp only [List.lookup, hb] at e
      exact List.mem_cons_of_mem _ (look_mem e)
theorem noLst_ok {K : PySem.W.Frag} (h : noLst K = true) {a : Addr} {o : Obj} (e : K.lookup a = some o) : o.cls ≠ .type "list" := fun z => by
  have h1 := List.all_eq_true.mp h (a, o) (look_mem e)
  have h2 : (!(o.cls == .type "list")) = true := h1
  rw [z] at h2
  simp at h2
abbrev AlY : Type := Bool × He.AlD
def obsY (n : Nat) (fa : List He.Fa) (fn : List He.DefD) (g : Addr → Option Obj) : AlY := (noLst (He.frG g (He.asD g n)), He.obsDG n fa fn g)
def hookY (n : Nat) (fa : List He.Fa) (fn : List He.DefD) : PySem.W.Hook where
  α := AlY
  obs := fun s => obsY n fa fn s.heap.get?
  val := fun _ => (true, He.valD fn)
  says := fun _ h => ∃ K : PySem.W.Frag, K.In h ∧ noLst K = true ∧ He.SaysD fa fn K
  of := fun _ _ e => ⟨_, He.frG_in, congrArg Prod.fst e, congrArg Prod.snd e⟩
  keeps := fun _ _ _ ⟨K, hK, c⟩ k => ⟨K, PySem.W.Frag.In.keeps hK k, c⟩
theorem obsY_eq {n : Nat} {fa : List He.Fa} {fn : List He.DefD} {g : Addr → Option Obj} {s : Shared} (h : ∀ a, g a = s.heap.get? a) : obsY n fa fn g = (hookY n fa fn).obs s := by
  have e : g = s.heap.get? := funext h
  rw [e]
  rfl
/-! ### the law's end -/
theorem end_call {P : Program} {w : World} {K : PySem.W.Frag} {mg mb : Str → Option Value} {k : Nat} {fa a : Addr} {fd : FuncData} {x : Str} {t : DSp} {s₁ : Shared} {vs : List Value} {ns : List Int}
    (KX : K.In s₁.heap) (hno : noLst K = true) (hns : s₁.heap.Ns mainGlobals mg) (hb : s₁.heap.Ns builtinsNs mb) (hbb : ∀ x : Str, x ≠ "__name__" → mb x = bootBuiltins x) (hlim : s₁.heap.NoLimit) (hg : s₁.gens = #[])
    (ha : s₁.heap.get? a = some { cls := .type "list", data := .seq vs.toArray }) (hi : IntsAre vs ns) (hl : ns.length ≤ sizeLine) (hr : RmG k callerA)
    (F : ∀ base : Heap, K.In base → base.Ns mainGlobals mg → FnY P w K mg base k fa fd [x] (spOf t)) (hbind : ∀ (s : Shared) (u : Value), BindsTo s fd ⟨[u], []⟩ [(x, u)])
    (hsp : t [.scr ns] (fun _ => none) (fun _ _ => False) fun d _ => d = .bl true) :
    codeAny (model P w) callerA (.call (.ref fa) ⟨[.ref a], []⟩) (fun r s' => r = .ok (.ret (.bool true)) ∧ OldK s₁.heap s'.heap ∧ s'.os = s₁.os ∧ AllBare s'.gens) s₁ := by
  have hKa : K.lookup a = none := by
    cases e : K.lookup a with
    | none => rfl
    | some o =>
      have e1 := KX a o e
      rw [ha] at e1
      cases e1
      exact absurd rfl (noLst_ok hno e)
  have rv := vals_ints hi
  -- what is tracked: the script alone
  obtain ⟨H, hH⟩ : ∃ H : Hp, H = fun b => if b = a then some (.frz { cls := .type "list", data := .seq vs.toArray } (.lst (ns.map V.int))) else none := ⟨_, rfl⟩
  have Ha : H a = some (.frz { cls := .type "list", data := .seq vs.toArray } (.lst (ns.map V.int))) := by rw [hH]; exact if_pos rfl
  have Hb : ∀ {b}, b ≠ a → H b = none := fun {b} n => by rw [hH]; exact if_neg n
  have hok : HOk P w H s₁.heap := fun b u z => by
    by_cases n : b = a
    · subst n
      rw [Ha] at z
      cases z
      exact ⟨ha, by rw [List.length_map]; exact hl, vs, _, rv, ha⟩
    · rw [Hb n] at z
      cases z
  have free : ∀ {b : Addr} {o : Obj}, s₁.heap.get? b = some o → b ≠ a → (hidT s₁.heap H).get? b = some o := fun e n => hidT_get e (Hb n)
  have nsK : ∀ {b : Addr} {m : Str → Option Value}, s₁.heap.Ns b m → (hidT s₁.heap H).Ns b m := fun {b m} ⟨o, es, ep, e, d, r⟩ => ⟨o, es, ep, free e (fun n => by
    subst n
    rw [ha] at e
    cases e
    have d' : Data.seq vs.toArray _ = Data.dict es ep := d
    cases d'), d, r⟩
  have hKb : K.In (hidT s₁.heap H) := fun b o e => free (KX b o e) fun n => by
    subst n
    rw [hKa] at e
    cases e
  have hM : Mod K mg (hidT s₁.heap H) := ⟨hKb, nsK hns, ⟨mb, nsK hb, hbb⟩, let ⟨mc, h1, h2⟩ := hlim; ⟨mc, nsK h1, h2⟩⟩
  have e0 : Env0 P w K mg (hidT s₁.heap H) callerA [] s₁ H := ⟨rfl, hM, fun b o e => of_hidT e, Nat.le_of_eq (hidT_size _ _), trivial, fun b hb => absurd (show b ∈ ([] : List Addr) from hb) (by simp), hok, .of_eq hg⟩
  have hw : Wd (fun _ => False) (fun _ => none) H := ⟨fun _ z => z.elim, fun b o e => by
    have e' : Ov (fun _ => False) (fun _ => none) b = some o := e
    rw [Ov_out (fun z => z)] at e'
    cases e'⟩
  have hsp' : spOf t [.ref a] H (fun v _ => v = .bl true) (fun _ _ _ => False) :=
    ⟨fun _ => False, [.scr ns], fun _ => none, fun _ _ => False, fun d _ => d = .bl true, hw, .cons (.scr (.inr ⟨_, Ha⟩) (Ov_out fun z => z)) .nil, hsp, fun d G' q v H' r _ _ => by
      subst q
      cases r
      rfl, fun _ _ z => z.elim⟩
  refine codeAny_mono ((F _ hKb (nsK hns)).run callerA [] s₁ H ⟨[.ref a], []⟩ [.ref a] [.ref a] _ _ hr e0 (hbind s₁ (.ref a)) (.cons rfl .nil) hsp') fun r s' h => ?_
  match r, h with
  | .error e, h =>
    obtain ⟨_, _, _, _, _, _, _, _, _, _, _, _, z⟩ := h
    exact z.elim
  | .ok (.ret u), h =>
    obtain ⟨v, H', os, bare, un, hok', r', q⟩ := h
    have q' : v = .bl true := q
    subst q'
    obtain rfl : u = Value.bool true := r'
    refine ⟨rfl, OldK.of_keep fun b o e => ?_, os, bare⟩
    by_cases n : b = a
    · subst n
      have z2 := un.frzs b _ _ Ha
      obtain ⟨e2, _⟩ := hok' b _ z2
      rw [ha] at e
      cases e
      exact e2
    · exact un.keep b o e (Hb n) (by intro z; exact absurd (show b ∈ ([] : List Addr) from z) (by simp)) (by simp)
end Y
/-! Y12: the rules with their side goals filled. -/
namespace Y
open PySem PySem.Spec PyProof.Rows L2

section
variable {X : Cx} {W : WX}
theorem CxY.blk {s : Shared} {H : Hp} {sc : Scope} {ce : Env} {fp : List Addr} (c : CxY X) : CxY (X.blk s H sc ce fp) := ⟨c.calm, c.hu, c.gd, c.nd⟩
theorem CxY.u1 (c : CxY X) : X.A.units + 1 < cLine := Nat.lt_of_le_of_lt (Nat.add_le_add_left (by decide) _) c.hu

/-! ### a callee, by its name -/
structure Cal (P : Program) (w : World) (K : PySem.W.Frag) (mg : Str → Option Value) (base : Heap) (k : Nat) (x : Str) (t : DSp) : Prop where
  ex : ∃ f fd ps, FnY P w K mg base k f fd ps (spOf t) ∧ mg x = some (.ref f) ∧ PySem.W.keepIn K (.ref f) = true ∧ Binds K fd ps []
structure Clm (P : Program) (w : World) (K : PySem.W.Frag) (mg : Str → Option Value) (base : Heap) (k : Nat) (C : Addr) (m : Str) (t : DSp) : Prop where
  ex : ∃ f fd ps, FnY P w K mg base k f fd ps (spOf t) ∧ Meth K C m f ∧ Cls K C ∧ Binds K fd ps []
structure Mak (P : Program) (w : World) (K : PySem.W.Frag) (mg : Str → Option Value) (base : Heap) (k : Nat) (x : Str) (C : Addr) (t : DSp) : Prop where
  ex : ∃ f fd ps, FnY P w K mg base k f fd ps (spOf t) ∧ Mk K C f ∧ mg x = some (.ref C) ∧ Binds K fd ps []

variable {a b e o : Expr} {es : List Expr} {ta tb tc te to ti : DE} {tA : DA} {pos pos' p apos : Pos} {x m : Str} {k : Nat} {t : DSp} {C : Addr}
theorem ycall {j : Nat} (F : Cal X.prog X.w X.K X.mg X.base j x t) (hr : RmG k X.A) (tk : Takes X W) (ha : MA X W (e :: es) tA) (hj : j ≤ k := by decide) (hg : Gl X x := by rfl) (hdb : (x == ("__debug__" : Str)) = false := by decide)
    (he : starEach (e :: es) X.env = (false, eval e X.env) :: starEach es X.env := by rfl) (hpl : (backTo pos (starEach es X.env)).any (·.1) = false := by rfl) : ME X W (.Call (.Name x p) (e :: es) [] pos) (dCall t tA) := by
  obtain ⟨f, fd, ps, h1, h2, h3, h4⟩ := F.ex
  exact me_call h1 (hr.mono hj) hg h2 h3 h4 tk ha hdb he hpl
theorem ycall0 {j : Nat} (F : Cal X.prog X.w X.K X.mg X.base j x t) (hr : RmG k X.A) (tk : Takes X W) (hj : j ≤ k := by decide) (hg : Gl X x := by rfl) (hdb : (x == ("__debug__" : Str)) = false := by decide) : ME X W (.Call (.Name x p) [] [] pos) (dCall t dNil) := by
  obtain ⟨f, fd, ps, h1, h2, h3, h4⟩ := F.ex
  exact me_call0 h1 (hr.mono hj) hg h2 h3 h4 tk hdb
theorem ymeth {j : Nat} {pl : Sem Bool} (F : Clm X.prog X.w X.K X.mg X.base j C m t) (hr : RmG k X.A) (tk : Takes X W) (ho : ME X W o te) (ha : MA X W (e :: es) tA) (hj : j ≤ k := by decide)
    (hst : starEach (e :: es) X.env = (false, eval e X.env) :: starEach es X.env := by rfl) (hpl : (backTo pos (starEach es X.env)).any (·.1) = false := by rfl)
    (ht : eval (.Call (.Attribute o m apos) (e :: es) [] pos) X.env = (do
      let ov ← eval o X.env
      standAt apos.atName
      let (f, first) ← holding [ov] (getMethod ov m pl)
      callWith pos f first (backTo pos (starEach (e :: es) X.env)) (backToKw pos (keywordEach [] X.env))) := by rfl) : ME X W (.Call (.Attribute o m apos) (e :: es) [] pos) (dMeth C m t te tA) := by
  obtain ⟨f, fd, ps, h1, h2, h3, h4⟩ := F.ex
  exact me_meth ho h3 h2 h1 (hr.mono hj) h4 tk ha hst hpl ht
theorem ymeth0 {j : Nat} {pl : Sem Bool} (F : Clm X.prog X.w X.K X.mg X.base j C m t) (hr : RmG k X.A) (tk : Takes X W) (ho : ME X W o te) (hj : j ≤ k := by decide)
    (ht : eval (.Call (.Attribute o m apos) [] [] pos) X.env = (do
      let ov ← eval o X.env
      standAt apos.atName
      let (f, first) ← holding [ov] (getMethod ov m pl)
      callWith pos f first (backTo pos (starEach [] X.env)) (backToKw pos (keywordEach [] X.env))) := by rfl) : ME X W (.Call (.Attribute o m apos) [] [] pos) (dMeth C m t te dNil) := by
  obtain ⟨f, fd, ps, h1, h2, h3, h4⟩ := F.ex
  exact me_meth0 ho h3 h2 h1 (hr.mono hj) h4 tk ht
theorem ymake {j : Nat} (F : Mak X.prog X.w X.K X.mg X.base j x C t) (hr : RmG k X.A) (tk : Takes X W) (ha : MA X W (e :: es) tA) (hj : j + 1 ≤ k := by decide) (hg : Gl X x := by rfl) (hdb : (x == ("__debug__" : Str)) = false := by decide)
    (he : starEach (e :: es) X.env = (false, eval e X.env) :: starEach es X.env := by rfl) (hpl : (backTo pos (starEach es X.env)).any (·.1) = false := by rfl) : ME X W (.Call (.Name x p) (e :: es) [] pos) (dMake C t tA) := by
  obtain ⟨f, fd, ps, h1, h2, h3, h4⟩ := F.ex
  exact me_make h2 h1 (hr.mono hj) hg h3 h4 tk ha hdb he hpl
theorem ymake0 {j : Nat} (F : Mak X.prog X.w X.K X.mg X.base j x C t) (hr : RmG k X.A) (tk : Takes X W) (hj : j + 1 ≤ k := by decide) (hg : Gl X x := by rfl) (hdb : (x == ("__debug__" : Str)) = false := by decide) : ME X W (.Call (.Name x p) [] [] pos) (dMake C t dNil) := by
  obtain ⟨f, fd, ps, h1, h2, h3, h4⟩ := F.ex
  exact me_make0 h2 h1 (hr.mono hj) hg h3 h4 tk hdb
/-! ### names -/
theorem yv (i : Nat) (hN : X.N[i]? = some x := by rfl) (hv : Vis X.env.scope x := by first | exact Or.inl rfl | exact Or.inr (Or.inl rfl) | exact Or.inr (Or.inr rfl)) (hd : (x == ("__debug__" : Str)) = false := by decide)
    (hcd : (x == ("__classdict__" : Str)) = false := by decide) : ME X W (.Name x pos) (dVar i) := me_var hN hv hd hcd
theorem ygi {i : Int} (hm : ∃ t, X.mg x = some (.int i t)) (hg : Gl X x := by rfl) (hd : (x == ("__debug__" : Str)) = false := by decide) : ME X W (.Name x pos) (dC (.int i)) := by
  obtain ⟨t, hm⟩ := hm
  exact me_c (pe_glob (v := .int i) hg hm ⟨t, rfl⟩ hd) fun _ _ => .int i
theorem ygs {z : Str} {l : List Nat} (hm : ∃ t, X.mg x = some (.str z t)) (hz : z.cps.toList = l := by kernel_rfl) (hg : Gl X x := by rfl) (hd : (x == ("__debug__" : Str)) = false := by decide) : ME X W (.Name x pos) (dC (.str l)) := by
  obtain ⟨t, hm⟩ := hm
  subst hz
  refine me_c (v := .str z) (pe_glob hg hm ⟨t, rfl⟩ hd) fun G H => ?_
  have r : Rel G H (.str z.cps.toList) (.str (St z.cps.toList)) := .str _
  rw [St_tl] at r
  exact r
theorem yty {T : String} (hm : X.mg x = none) (hv : bootBuiltins x = some (.type T) := by kernel_rfl) (hg : Gl X x := by rfl) (hn : x ≠ "__name__" := by decide) (hd : (x == ("__debug__" : Str)) = false := by decide) : ME X W (.Name x pos) (dC (.ty T)) :=
  me_c (v := .ty T) (pe_bltn hg hm hv rfl hn hd) fun _ _ => .ty T
/-! ### constants, operators -/
theorem ystr {z : Str} {l : List Nat} {j} (h : z.cps.toList = l := by kernel_rfl) : ME X W (.Constant (.str z) j pos) (dC (.str l)) := me_str h
theorem ycmp {op : CmpOp} {r : R2d} (ho : OpD X (compareOp op) r) (ha : ME X W a ta) (hb : ME X W b tb) (hm : behindInMarks op b = false := by rfl) : ME X W (.Compare a [op] [b] pos) (dOp r ta tb) := me_cmp ho ha hb hm
theorem ytcmp {op : CmpOp} {r : R2d} (ho : OpD X (compareOp op) r) (ha : ME X W a ta) (hb : ME X W b tb) (hm : behindInMarks op b = false := by rfl) : MT X W (.Compare a [op] [b] pos) (dTest (dOp r ta tb)) := mt_cmp ho ha hb hm
theorem ychain {c : Expr} {op op' : CmpOp} {r r' : R2d} (ho : OpD X (compareOp op) r) (ho' : OpD X (compareOp op') r') (ha : ME X W a ta) (hb : ME X W b tb) (hc : ME X W c tc) (hm : lastMarks [op, op'] [b, c] = false := by rfl) :
    ME X W (.Compare a [op, op'] [b, c] pos) (dChain r r' ta tb tc) := me_chain ho ho' ha hb hc hm
theorem ytchain {c : Expr} {op op' : CmpOp} {r r' : R2d} (ho : OpD X (compareOp op) r) (ho' : OpD X (compareOp op') r') (ha : ME X W a ta) (hb : ME X W b tb) (hc : ME X W c tc) (hm : lastMarks [op, op'] [b, c] = false := by rfl) :
    MT X W (.Compare a [op, op'] [b, c] pos) (dTest (dChain r r' ta tb tc)) := mt_chain ho ho' ha hb hc hm
theorem ytv (h : ME X W e te) (he : ∀ whole, isTrue e X.env whole = (do let v ← whole; standAt e.pos; holding [v] (truthy v)) := by intro _; rfl) : MT X W e (dTest te) := mt_val h he
def dUn (r : R1d) (ta : DE) : DE := fun σ G ex Q => ta σ G ex fun x G1 => r x G1 Q
theorem yneg (ha : ME X W a ta) : ME X W (.UnaryOp .USub a pos) (dUn oNeg ta) :=
  ⟨PE.imp (pe_un un_neg ha.pe) fun τ H Q ⟨P, σ, G, ex, Qd, a, x, t, k⟩ => ⟨P, σ, G, ex, _, a, x, t, fun d G1 h1 v H1 r a1 s1 => by
    cases d with
    | int i => cases r; exact ⟨i, rfl, k _ _ h1 _ _ (.int _) a1 s1⟩
    | _ => exact h1.elim⟩⟩
theorem ycons {tr : DA} (ha : ME X W e te) (hr : MA X W es tr) (hs : starEach (e :: es) X.env = (false, eval e X.env) :: starEach es X.env := by rfl) : MA X W (e :: es) (dCons te tr) := ma_cons ha hr hs
/-! ### subscripts, attributes, methods -/
theorem yix (c : CxY X) (ha : ME X W a ta) (hb : ME X W b tb) (hs : PlainIx b := by intro _ _; rfl) : ME X W (.Subscript a b pos) (dOp oIx ta tb) := me_ix c.u1 ha hb hs
theorem yfld {f : Str} (ho : ME X W o te) (c : Cls X.K C) (n : NoAttr X.K C f) (hb : attributeBase o f X.env (eval o X.env) = eval o X.env := by rfl) : ME X W (.Attribute o f pos) (dFld C f te) := me_fld ho c n hb
theorem ybm {T id : String} {name : Str} {cpos : Pos} {r : RMd} (pa : PlainAttrs T) (slot : Slot T name id) (hty : typeOf (.builtin id) = pure (.type "method_descriptor")) (hm : MtD X id r) (ho : ME X W o to) (ha : MA X W (e :: es) tA)
    (hbase : attributeBase o name X.env (eval o X.env) = eval o X.env := by rfl)
    (hfew : ((backTo cpos (starEach (e :: es) X.env)).all (fun x => !x.1) && (backToKw cpos (keywordEach [] X.env)).all (fun x => x.1.isSome)
      && decide ((e :: es).length + ([] : List Keyword).length + (if ([] : List Keyword).isEmpty then 0 else 1) < 30)) = true := by rfl)
    (hline : (apos.endLine == cpos.line) = true := by rfl) (hs : starEach (e :: es) X.env = (false, eval e X.env) :: starEach es X.env := by rfl) (hplain : (backTo cpos (starEach es X.env)).any (·.1) = false := by rfl) :
    ME X W (.Call (.Attribute o name apos) (e :: es) [] cpos) (dBM T r to tA) := me_bm pa slot hty hm ho ha hbase hfew hline hs hplain
theorem ybm0 {T id : String} {name : Str} {cpos : Pos} {r : RMd} (pa : PlainAttrs T) (slot : Slot T name id) (hty : typeOf (.builtin id) = pure (.type "method_descriptor")) (hm : MtD X id r) (ho : ME X W o to)
    (hbase : attributeBase o name X.env (eval o X.env) = eval o X.env := by rfl) (hline : (apos.endLine == cpos.line) = true := by rfl) : ME X W (.Call (.Attribute o name apos) [] [] cpos) (dBM0 T r to) := me_bm0 pa slot hty hm ho hbase hline
theorem ycb {id : String} {r : RCd} (hc : CallD X (.builtin id) r) (hm : X.mg x = none) (ha : MA X W (e :: es) tA) (hv : bootBuiltins x = some (.builtin id) := by kernel_rfl) (hg : Gl X x := by rfl) (hn : x ≠ "__name__" := by decide) (hdb : (x == ("__debug__" : Str)) = false := by decide)
    (he : starEach (e :: es) X.env = (false, eval e X.env) :: starEach es X.env := by rfl) (hpl : (backTo pos (starEach es X.env)).any (·.1) = false := by rfl) : ME X W (.Call (.Name x p) (e :: es) [] pos) (dCB r tA) := me_callB hc hg hm hv ha hn hdb he hpl
theorem yct {T : String} {r : RCd} (hc : CallD X (.type T) r) (hm : X.mg x = none) (ha : MA X W (e :: es) tA) (hv : bootBuiltins x = some (.type T) := by kernel_rfl) (hg : Gl X x := by rfl) (hn : x ≠ "__name__" := by decide) (hdb : (x == ("__debug__" : Str)) = false := by decide)
    (he : starEach (e :: es) X.env = (false, eval e X.env) :: starEach es X.env := by rfl) (hpl : (backTo pos (starEach es X.env)).any (·.1) = false := by rfl) : ME X W (.Call (.Name x p) (e :: es) [] pos) (dCB r tA) := me_callTy hc hg hm hv ha hn hdb he hpl
/-! ### what is walked -/
theorem yrg1 {tg : Expr} (hm : X.mg "range" = none) (ha : ME X W a ta) (hg : Gl X "range" := by rfl) (hs : starEach [a] X.env = [(false, eval a X.env)] := by rfl) : MI X W tg (.Call (.Name "range" p) [a] [] pos) (dRng1 ta) := mi_range1 hg hm ha hs
theorem yrg2 {tg : Expr} (hm : X.mg "range" = none) (ha : ME X W a ta) (hb : ME X W b tb) (hg : Gl X "range" := by rfl) (hs : starEach [a, b] X.env = [(false, eval a X.env), (false, eval b X.env)] := by rfl) (hs2 : starEach [b] X.env = [(false, eval b X.env)] := by rfl) :
    MI X W tg (.Call (.Name "range" p) [a, b] [] pos) (dRng2 ta tb) := mi_range2 hg hm ha hb hs hs2
theorem yzip {tpos : Pos} {elts : List Expr} {kk : Nat} (hm : X.mg "zip" = none) (ha : ME X W a ta) (hb : ME X W b tb) (hg : Gl X "zip" := by rfl)
    (hs : starEach [a, b] X.env = (false, eval a X.env) :: starEach [b] X.env := by rfl) (hs2 : starEach [b] X.env = [(false, eval b X.env)] := by rfl) (hpl : (backTo pos (starEach [b] X.env)).any (·.1) = false := by rfl) :
    MI X W (.Tuple elts kk tpos) (.Call (.Name "zip" p) [a, b] [] pos) (dZip ta tb) := mi_zip hg hm ha hb hs hs2 hpl
/-! ### targets -/
theorem ytg1 {i : Nat} (c : CxY X) (hi : X.N[i]? = some x := by rfl) (hx : Loc X.env.scope x := by first | exact Or.inl rfl | exact Or.inr rfl) (hf : X.fn x = true ∨ X.env.scope.names.lookup x = some .local := by first | exact Or.inl rfl | exact Or.inr rfl) : MG X W (.Name x pos) (gName' i) := mg_name c.nd hi hx hf
theorem ynat {es : List Expr} {i : Nat} {is : List Nat} (h : NamesAt X es is) (hi : X.N[i]? = some x := by rfl) (hx : Loc X.env.scope x := by first | exact Or.inl rfl | exact Or.inr rfl) (hf : X.fn x = true ∨ X.env.scope.names.lookup x = some .local := by first | exact Or.inl rfl | exact Or.inr rfl) : NamesAt X (.Name x p :: es) (i :: is) := .cons hi hx hf h
theorem ytg2 {k : Nat} {is : List Nat} (c : CxY X) (h : NamesAt X es is) : MG X W (.Tuple es k pos) (gTup' is) := mg_tup c h
theorem ypg1 {i : Nat} (c : CxY X) (hi : X.N[i]? = some x := by rfl) (hx : Loc X.env.scope x := by first | exact Or.inl rfl | exact Or.inr rfl) (hf : X.fn x = true ∨ X.env.scope.names.lookup x = some .local := by first | exact Or.inl rfl | exact Or.inr rfl) : PG X (.Name x pos) ((TK.one i).t X.K) := pg_tgt c.nd c.calm (tk := .one i) ⟨x, pos, rfl, hi, hx, hf⟩
theorem ypg2 {k : Nat} {is : List Nat} (c : CxY X) (h : NamesAt X es is) : PG X (.Tuple es k pos) ((TK.tup is).t X.K) := pg_tgt c.nd c.calm (tk := .tup is) ⟨es, k, pos, rfl, h⟩
/-! ### comprehensions -/
theorem ylc {elt tg iter : Expr} {ifs : List Expr} {scope : Scope} {own : List (Str × Nat)} {wi : DI} {tk : TK} {tt : DT} (c : CxY X) (hi : MI X W tg iter wi)
    (hg : ∀ (s : Shared) (H : Hp) (C : Addr) (cl : List (Str × Addr)) (fp : List Addr), PG (X.blk s H scope (compEnvC scope cl C X.env) fp) tg (tk.t X.K))
    (ht : ∀ (s : Shared) (H : Hp) (C : Addr) (cl : List (Str × Addr)) (fp : List Addr), MTs (X.blk s H scope (compEnvC scope cl C X.env) fp) W0 ifs tt)
    (he : ∀ (s : Shared) (H : Hp) (C : Addr) (cl : List (Str × Addr)) (fp : List Addr), ME (X.blk s H scope (compEnvC scope cl C X.env) fp) W0 elt te) (ok : blkC X.N X.env.scope scope own = true := by kernel_rfl) (hm : (tk.names.all fun i => decide (i ∈ own.map (·.2))) = true := by rfl) (hs : ∀ x, foldedSetIterable iter X.env x = pure x := by intro _; rfl) :
    ME X W (.ListComp elt [⟨tg, iter, ifs, 0⟩] scope pos) (dComp wi tk tt te (own.map (·.2))) := me_lc c hi (blkOk_by ok) (fun i hi => of_decide_eq_true (List.all_eq_true.mp hm i hi)) hg ht he hs
theorem ydc {kx vx tg iter : Expr} {ifs : List Expr} {scope : Scope} {own : List (Str × Nat)} {wi : DI} {tk : TK} {tt : DT} {t1 t2 : DE} (c : CxY X) (hi : MI X W tg iter wi)
    (hg : ∀ (s : Shared) (H : Hp) (C : Addr) (cl : List (Str × Addr)) (fp : List Addr), PG (X.blk s H scope (compEnvC scope cl C X.env) fp) tg (tk.t X.K))
    (ht : ∀ (s : Shared) (H : Hp) (C : Addr) (cl : List (Str × Addr)) (fp : List Addr), MTs (X.blk s H scope (compEnvC scope cl C X.env) fp) W0 ifs tt)
    (h1 : ∀ (s : Shared) (H : Hp) (C : Addr) (cl : List (Str × Addr)) (fp : List Addr), ME (X.blk s H scope (compEnvC scope cl C X.env) fp) W0 kx t1)
    (h2 : ∀ (s : Shared) (H : Hp) (C : Addr) (cl : List (Str × Addr)) (fp : List Addr), ME (X.blk s H scope (compEnvC scope cl C X.env) fp) W0 vx t2) (ok : blkC X.N X.env.scope scope own = true := by kernel_rfl) (hm : (tk.names.all fun i => decide (i ∈ own.map (·.2))) = true := by rfl) (hs : ∀ x, foldedSetIterable iter X.env x = pure x := by intro _; rfl) :
    ME X W (.DictComp kx vx [⟨tg, iter, ifs, 0⟩] scope pos) (dCompD wi tk tt t1 t2 (own.map (·.2))) := me_dc c hi (blkOk_by ok) (fun i hi => of_decide_eq_true (List.all_eq_true.mp hm i hi)) hg ht h1 h2 hs
/-! ### statements -/
theorem yset {i : Nat} (c : CxY X) (he : ME X W e te) (hi : X.N[i]? = some x := by rfl) (hx : Loc X.env.scope x := by first | exact Or.inl rfl | exact Or.inr rfl) (hs : swapsWith e (some (.Name x pos')) pos.line X.env = pure false := by rfl)
    (hf : X.fn x = true ∨ X.env.scope.names.lookup x = some .local := by first | exact Or.inl rfl | exact Or.inr rfl) : MS X W (.Assign [.Name x pos'] e pos) (dAsg te (gName' i)) := ms_set c.nd hi hx he hs hf
theorem ysetLc {i : Nat} {y : Str} {py spos : Pos} {elt tg iter : Expr} {ifs : List Expr} {scope : Scope} {own : List (Str × Nat)} {wi : DI} {tk : TK} {tt : DT} (c : CxY X) (hi : MI X W tg iter wi)
    (hg : ∀ (s : Shared) (H : Hp) (C : Addr) (cl : List (Str × Addr)) (fp : List Addr), PG (X.blk s H scope (compEnvC scope cl C X.env) fp) tg (tk.t X.K))
    (ht : ∀ (s : Shared) (H : Hp) (C : Addr) (cl : List (Str × Addr)) (fp : List Addr), MTs (X.blk s H scope (compEnvC scope cl C X.env) fp) W0 ifs tt)
    (he : ∀ (s : Shared) (H : Hp) (C : Addr) (cl : List (Str × Addr)) (fp : List Addr), ME (X.blk s H scope (compEnvC scope cl C X.env) fp) W0 elt te) (hy : X.N[i]? = some y := by rfl) (hyl : X.env.scope.names.lookup y = some .local := by rfl) (hsw : swapsWith (.ListComp elt [⟨tg, iter, ifs, 0⟩] scope pos) (some (.Name y py)) spos.line X.env = pure true := by rfl)
    (ok : blkC X.N X.env.scope scope own = true := by kernel_rfl) (hm : (tk.names.all fun i => decide (i ∈ own.map (·.2))) = true := by rfl) (hs : ∀ x, foldedSetIterable iter X.env x = pure x := by intro _; rfl) :
    MS X W (.Assign [.Name y py] (.ListComp elt [⟨tg, iter, ifs, 0⟩] scope pos) spos) (dAsg (dComp wi tk tt te (own.map (·.2))) (gName' i)) := ms_setLc c hy hyl hsw hi (blkOk_by ok) (fun i hi => of_decide_eq_true (List.all_eq_true.mp hm i hi)) hg ht he hs
theorem yasg {tg : Expr} {g : DG} (he : ME X W e te) (hg : MG X W tg g) (hs : swapsWithSole [tg] e pos.line X.env = pure false := by rfl) (hw : swappedStores [tg] e X.env = pure none := by rfl)
    (h1 : (assignEach [tg] X.env).map (·.2) = [assign tg X.env] := by rfl) : MS X W (.Assign [tg] e pos) (dAsg te g) := ms_asg he hg hs hw h1
theorem ysub (c : CxY X) (ho : ME X W a to) (hi : ME X W b ti)
    (ha : ∀ v, assign (.Subscript a b pos) X.env v = (do
      let ov ← holding [v] (eval a X.env)
      let iv ← holding [v, ov] (eval b X.env)
      standAt pos
      holding [v, ov, iv] (setItem ov iv v)
      release [v, ov, iv] []) := by intro _; rfl) : MG X W (.Subscript a b pos) (gSub' to ti) := mg_sub c.u1 ho hi ha
theorem ypar {i j : Nat} {y : Str} {ta : DA} {px py pt : Pos} {kt k2 pt2} (c : CxY X) (ha : MA X W [a, b] ta) (hi : X.N[i]? = some x := by rfl) (hj : X.N[j]? = some y := by rfl) (hij : i ≠ j := by decide)
    (hx : X.env.scope.names.lookup x = some .local := by rfl) (hy : X.env.scope.names.lookup y = some .local := by rfl)
    (hw : swappedStores [.Tuple [.Name x px, .Name y py] kt pt] (.Tuple [a, b] k2 pt2) X.env = pure (some [x, y]) := by rfl)
    (hs : swapsWithSole [.Tuple [.Name x px, .Name y py] kt pt] (.Tuple [a, b] k2 pt2) pos.line X.env = pure false := by rfl) :
    MS X W (.Assign [.Tuple [.Name x px, .Name y py] kt pt] (.Tuple [a, b] k2 pt2) pos) (dPar i j ta) := ms_par c hi hj hij hx hy ha hw hs
theorem yaug {i : Nat} {op : Operator} {r : R2d} (c : CxY X) (ho : PIpD X op r) (he : ME X W e te) (hi : X.N[i]? = some x := by rfl) (hx : Loc X.env.scope x := by first | exact Or.inl rfl | exact Or.inr rfl) (hf : X.fn x = true ∨ X.env.scope.names.lookup x = some .local := by first | exact Or.inl rfl | exact Or.inr rfl) :
    MS X W (.AugAssign (.Name x pos') op e pos) (dAug i te r) := ms_aug c.nd hi hx he ho hf
theorem yfldS {f : Str} (ho : ME X W a to) (hv : ME X W e te) (c : Cls X.K C) (n : NoAttr X.K C f) (hs : swapsWith e (some (.Attribute a f pos')) pos.line X.env = pure false := by rfl) : MS X W (.Assign [.Attribute a f pos'] e pos) (dFldS C f to te) := ms_fld ho hv c n hs
theorem yexpr (he : ME X W e te) (hs : swapsWith e none pos.line X.env = pure false := by rfl) : MS X W (.Expr e pos) (dDrop te) := ms_expr he hs
theorem yfor {tg iter : Expr} {body : List Stmt} {wi : DI} {g : DG} {tb : DS} (hp : PassesOwn (model X.prog X.w) X.A X.env X.xe) (c : CxY X) (hi : MI X W tg iter wi) (hg : MG X W tg g) (hb : MSs X W body tb) (hs : ∀ x, foldedSetIterable iter X.env x = pure x := by intro _; rfl) :
    MS X W (.For tg iter body [] pos) (dFor wi g tb) := ms_for hp c hi hg hb hs
/-- x += y: numbers, texts -/
def oIAdd : R2d := fun x y G Q => match x, y with
  | .int i, .int j => Q (.int (i + j)) G
  | .str a, .str b => a.length + b.length ≤ 10000000 ∧ Q (.str (a ++ b)) G
  | _, _ => False
theorem ipAdd : PIpD X .Add oIAdd := ipd_of (opd_of ((iop_add (X := X)).or iop_add_str) fun P dx dy G Qd x y H Q w rx ry q k => by
  match dx, dy, rx, ry, q with
  | .int i, .int j, .int _, .int _, q => exact .inl ⟨i, j, rfl, rfl, k _ _ q _ _ (.int _) w Sp'.refl⟩
  | .str a, .str b, .str _, .str _, q =>
    refine .inr ⟨_, _, rfl, rfl, by rw [St_length, St_length]; exact lim_le q.1, ?_⟩
    rw [St_append]
    exact k _ _ q.2 _ _ (.str _) w Sp'.refl)
end
/-! ### {} -/
def dDicNew : DE := fun _ G _ Q => ∀ p, G p = none → Q (.ref p) (G.set p (.dic []))
theorem ydic {X : Cx} {W : WX} {pos : Pos} : ME X W (.Dict [] [] pos) dDicNew :=
  ⟨PE.imp pe_dnewK fun τ H Q ⟨P, σ, G, ex, Qd, a, x, t, k⟩ => fun p hp => k _ _ (t p (a.wd.free hp)) _ _ (.ref p) (a.wd.newO hp ⟨[], upd_same, .nil⟩) (Sp'.newO a.wd hp)⟩
/-! ### a def -/
section
variable {P : Program} {w : World} {K : PySem.W.Frag} {mg : Str → Option Value} {base : Heap} {x qual : Str} {params : Arguments} {body : List Stmt} {scope : Scope} {f : Addr} {fd : FuncData} {N ps : List Str} {k : Nat}
theorem yfn {t : DS} {n m : Nat} (F : FunD K x qual params body scope [] [] f fd) (S : FnScope N ps scope) (hn : ps.length = n) (hm : N.length = n + m)
    (hbody : ∀ (cdv : Value) (A : Around) (outer : List Env) (s : Shared) (H : Hp) (E : XK), RmG k (cxOf (L2.CX P w) P w K mg base N qual scope f cdv A outer s H E).A → CxY (cxOf (L2.CX P w) P w K mg base N qual scope f cdv A outer s H E) →
      Takes (cxOf (L2.CX P w) P w K mg base N qual scope f cdv A outer s H E) (fun c d _ H' => E c d H') →
      PassesOwn (model (cxOf (L2.CX P w) P w K mg base N qual scope f cdv A outer s H E).prog (cxOf (L2.CX P w) P w K mg base N qual scope f cdv A outer s H E).w) (cxOf (L2.CX P w) P w K mg base N qual scope f cdv A outer s H E).A (cxOf (L2.CX P w) P w K mg base N qual scope f cdv A outer s H E).env (cxOf (L2.CX P w) P w K mg base N qual scope f cdv A outer s H E).xe →
      MSs (cxOf (L2.CX P w) P w K mg base N qual scope f cdv A outer s H E) (fun c d _ H' => E c d H') body t) : FnY P w K mg base (k + 1) f fd ps (spOf (fnD n m t)) :=
  fnY_of F S hn hm fun cdv A outer s H E hr => hbody cdv A outer s H E hr (CxY.of (X := cxOf (L2.CX P w) P w K mg base N qual scope f cdv A outer s H E) rfl hr S.nd) (takes_of rfl rfl rfl rfl) (passes_of rfl)
/-! ### the end of a law -/
theorem walk_end {l : PySem.W.OpenLaw} {n k : Nat} {q : Program} {loose : List Str} {XP : (Str → Option Value) → Heap → Prop} {YP : World → Heap → Prop} {d : DefRec} {x : Str} {fa : List He.Fa} {fn : List He.DefD}
    (hn : l.most = some n) (hn2 : n ≤ sizeLine) (hdf : d.params.defaults = []) (hr : RmG k callerA) (hY : ∀ w h, YP w h → ∃ K : PySem.W.Frag, K.In h ∧ noLst K = true ∧ He.SaysD fa fn K)
    (F : ∀ (w : World) (mg : Str → Option Value) (h : Heap) (K : PySem.W.Frag) (a : Addr), K.In h → h.Ns mainGlobals mg → He.SaysD fa fn K → mg d.name = some (.ref a) →
      ∃ (fd : FuncData) (t : DSp), (∀ (s : Shared) (u : Value), BindsTo s fd ⟨[u], []⟩ [(x, u)]) ∧ (∀ ns : List Int, ns.length ≤ n → (∀ z ∈ ns, Builtin.Int.intBits z ≤ 1048576) → t [.scr ns] (fun _ => none) (fun _ _ => False) fun d _ => d = .bl true) ∧
        ∀ base : Heap, FnY l.prog w K mg base k a fd [x] (spOf t)) :
    PySem.W.WalkO q loose XP YP l.row.toRowW d [] (fun f vs => PySem.call f vs) := by
  refine Att.attach_callB hn hdf fun w s₀ s₁ mg mb fa' o pm cd doc a vs ns G Y ho hd hcd hmg hobj hints hlen hbits hg => ?_
  obtain ⟨K, KX, hno, D⟩ := hY _ _ Y
  obtain ⟨fd, t, hb, hsp, hF⟩ := F w mg _ K fa' KX G.T.g D hmg
  exact end_call KX hno G.T.g G.T.b G.T.builtins G.T.nolimit hg hobj hints (Nat.le_trans hlen hn2) hr (fun base _ _ => hF base) hb (hsp ns hlen hbits)
end
/-! ### sorted, any of the three -/
def cSort : RCd := fun xs G Q => cSortI xs G Q ∨ cSortS xs G Q ∨ cSortD xs G Q
theorem cd_sort {X : Cx} (hc : X.calm = true) : CallD X (.builtin "sorted") cSort := by
  have h := (cd_sortI (X := X)).or ((cd_sortS (X := X)).or (calld_of (X := X) (r := cSortD) (cr_sortD hc) fun P ds G Qd xs H Q w rs ⟨d, kvs, ss, e1, e2, e3, q⟩ k => by
    subst e1
    match xs, rs with
    | [v], .cons rv .nil =>
      cases rv
      obtain ⟨us, hH, ru⟩ := w.at e2
      have e4 : us.map (·.1) = (ss.map St).map Sum.inr := by
        have z : kvs.map (fun p => kS p.1) = us.map (·.1) := by
          clear e3 hH e2 q
          induction ru with
          | nil => rfl
          | cons a b ih => rw [List.map_cons, List.map_cons, ih, a.1]
        rw [← z]
        have z2 : kvs.map (fun p => kS p.1) = (kvs.map (·.1)).map kS := by rw [List.map_map]; rfl
        rw [z2, e3, List.map_map, List.map_map]
        rfl
      refine ⟨d, us, ss.map St, rfl, hH, e4, fun ys p h1 h2 hp => ?_⟩
      have h3 := h1.map (fun x : Str => x.cps.toList)
      rw [map_tl_St] at h3
      have r := Rels.of_strs (G := Ov P G) (H := upd H p (.lst (ys.map V.str))) (ys.map fun x => x.cps.toList)
      rw [map_St_tl] at r
      exact k _ _ (q _ h3 (by rw [map_St_tl]; exact h2)) _ _ (.lst upd_same (w.ofree hp) r) (w.new hp) (Sp'.new w hp)))
  exact CallR.imp h fun xs H Q ⟨P, ds, G, Qd, w, rs, q, k⟩ => by
    rcases q with q | q | q
    · exact .inl ⟨P, ds, G, Qd, w, rs, q, k⟩
    · exact .inr (.inl ⟨P, ds, G, Qd, w, rs, q, k⟩)
    · exact .inr (.inr ⟨P, ds, G, Qd, w, rs, q, k⟩)
end Y
/-! M1: words on a loop, how they grow: plain mathematics. -/
namespace Mw
/-- the word of l letters from place i on -/
def wd (b : List Nat) (i l : Nat) : List Nat := (List.range l).map fun k => b.getD ((i + k) % b.length) 0
section
variable {b : List Nat} {i j l m : Nat}
theorem wd_len : (wd b i l).length = l := by unfold wd; simp
theorem wd_succ : wd b i (l + 1) = wd b i l ++ [b.getD ((i + l) % b.length) 0] := by
  unfold wd
  rw [List.range_succ, List.map_append, List.map_singleton]
theorem wd_take (h : m ≤ l) : (wd b i l).take m = wd b i m := by
  unfold wd
  rw [← List.map_take, List.take_range, Nat.min_eq_left h]
theorem wd_drop_last : (wd b i (l + 1)).dropLast = wd b i l := by
  rw [wd_succ, List.dropLast_concat]
theorem wd_get (h : m < l) : (wd b i l)[m]? = some (b.getD ((i + m) % b.length) 0) := by
  unfold wd
  rw [List.getElem?_map, List.getElem?_range h]
  rfl
theorem wd_eq_len (h : wd b i l = wd b j m) : l = m := by
  have e := congrArg List.length h
  rwa [wd_len, wd_len] at e
theorem wd_eq_take (h : wd b i l = wd b j l) (hm : m ≤ l) : wd b i m = wd b j m := by
  rw [← wd_take hm, ← wd_take (b := b) (i := j) hm, h]
end
/-! ### how many words of a place are known -/
def IsLg (S : List Nat → Bool) (b : List Nat) (i L : Nat) : Prop := (∀ m, m < L → S (wd b i (m + 1)) = true) ∧ S (wd b i (L + 1)) = false
section
variable {S : List Nat → Bool} {b : List Nat} {i L L' : Nat}
theorem IsLg.uniq (h : IsLg S b i L) (h' : IsLg S b i L') : L = L' := by
  rcases Nat.lt_trichotomy L L' with q | q | q
  · have := h'.1 L q
    rw [h.2] at this
    cases this
  · exact q
  · have := h.1 L' q
    rw [h'.2] at this
    cases this
def lgF (S : List Nat → Bool) (b : List Nat) (i : Nat) : Nat → Nat → Nat
  | 0, l => l
  | f + 1, l => if S (wd b i (l + 1)) = true then lgF S b i f (l + 1) else l
theorem lgF_spec {B : Nat} (hB : ∀ w, S w = true → w.length ≤ B) : ∀ (f l : Nat), B < l + f → (∀ m, m < l → S (wd b i (m + 1)) = true) → IsLg S b i (lgF S b i f l)
  | 0, l, hf, hl => ⟨hl, by
      show S (wd b i (l + 1)) = false
      cases e : S (wd b i (l + 1)) with
      | false => rfl
      | true =>
        have := hB _ e
        rw [wd_len] at this
        omega⟩
  | f + 1, l, hf, hl => by
    unfold lgF
    by_cases e : S (wd b i (l + 1)) = true
    · rw [if_pos e]
      refine lgF_spec hB f (l + 1) (by omega) fun m hm => ?_
      by_cases q : m = l
      · rw [q]; exact e
      · exact hl m (by omega)
    · rw [if_neg e]
      exact ⟨hl, by simpa using e⟩
theorem IsLg.ex {B : Nat} (hB : ∀ w, S w = true → w.length ≤ B) (b : List Nat) (i : Nat) : IsLg S b i (lgF S b i (B + 1) 0) := lgF_spec hB _ _ (by omega) fun m hm => absurd hm (Nat.not_lt_zero _)
theorem IsLg.le {B : Nat} (hB : ∀ w, S w = true → w.length ≤ B) (h : IsLg S b i L) : L ≤ B := by
  cases L with
  | zero => omega
  | succ L =>
    have := hB _ (h.1 L (by omega))
    rw [wd_len] at this
    exact this
end
/-- with a word its beginnings are in -/
def PC (S : List Nat → Bool) (b : List Nat) : Prop := ∀ i m, S (wd b i (m + 2)) = true → S (wd b i (m + 1)) = true
theorem PC.down {S : List Nat → Bool} {b : List Nat} (h : PC S b) {i : Nat} : ∀ (k m : Nat), S (wd b i (m + 1 + k)) = true → S (wd b i (m + 1)) = true
  | 0, m, e => e
  | k + 1, m, e => PC.down h k m (h i (m + k) (by rw [show m + k + 2 = m + 1 + (k + 1) by omega]; exact e) |> fun z => by rw [show m + 1 + k = m + k + 1 by omega]; exact z)
/-- unlike places have unlike words of n - 1 letters -/
def Prim (b : List Nat) : Prop := ∀ i j, i < b.length → j < b.length → wd b i (b.length - 1) = wd b j (b.length - 1) → i = j
/-- one word more -/
def plus (S : List Nat → Bool) (w : List Nat) : List Nat → Bool := fun v => S v || decide (v = w)
section
variable {S : List Nat → Bool} {b : List Nat} {L : Nat → Nat} {p i : Nat}
theorem step_lg (h : PC S b) {Li Lp : Nat} (hi : IsLg S b i Li) (hp : IsLg S b p Lp) : IsLg (plus S (wd b p (Lp + 1))) b i (if wd b i (Li + 1) = wd b p (Lp + 1) then Li + 1 else Li) := by
  by_cases e : wd b i (Li + 1) = wd b p (Lp + 1)
  · rw [if_pos e]
    refine ⟨fun m hm => ?_, ?_⟩
    · unfold plus
      by_cases q : m = Li
      · rw [q, decide_eq_true e, Bool.or_true]
      · rw [hi.1 m (by omega)]; rfl
    · unfold plus
      have e1 : S (wd b i (Li + 1 + 1)) = false := by
        cases z : S (wd b i (Li + 1 + 1)) with
        | false => rfl
        | true =>
          have := h i Li z
          rw [hi.2] at this
          cases this
      have e2 : ¬ wd b i (Li + 1 + 1) = wd b p (Lp + 1) := fun z => by
        have a1 := wd_eq_len e
        have a2 := wd_eq_len z
        omega
      rw [e1, decide_eq_false e2]
      rfl
  · rw [if_neg e]
    refine ⟨fun m hm => ?_, ?_⟩
    · unfold plus
      rw [hi.1 m hm]
      rfl
    · unfold plus
      rw [hi.2, decide_eq_false e]
      rfl
theorem step_pc (h : PC S b) {Lp : Nat} (hp : IsLg S b p Lp) : PC (plus S (wd b p (Lp + 1))) b := by
  intro i m e
  unfold plus at e ⊢
  rw [Bool.or_eq_true] at e
  rcases e with e | e
  · rw [h i m e]; rfl
  · have e1 : wd b i (m + 2) = wd b p (Lp + 1) := of_decide_eq_true e
    have e2 := wd_eq_len e1
    have e3 : wd b i (m + 1) = wd b p (m + 1) := by
      have e4 : wd b i (m + 2) = wd b p (m + 2) := by rw [e1, ← e2]
      exact wd_eq_take e4 (by omega)
    rw [e3, hp.1 m (by omega)]
    rfl
/-- behind n - 1 letters only the place itself grows, by one -/
theorem step_big (hp0 : Prim b) {Li Lp : Nat} (hi : i < b.length) (hp : p < b.length) (hb : b.length - 1 ≤ Lp) : wd b i (Li + 1) = wd b p (Lp + 1) → i = p := fun e => by
  have e1 := wd_eq_len e
  have e2 : wd b i (Lp + 1) = wd b p (Lp + 1) := by rw [← e, ← e1]
  exact hp0 i p hi hp (wd_eq_take e2 (by omega))
end
/-! ### it ends: a number that falls by every word -/
section
variable (n : Nat)
def lack (L : Nat → Nat) : Nat := ((List.range n).map fun i => n - 1 - L i).sum
def dist (L : Nat → Nat) (t v : Nat) : Nat := (t + (n - 1) * (v + L v + 1)) % n
def way (L : Nat → Nat) (t : Nat) : Nat := ((List.range n).map fun v => dist n L t v).sum
/-- the first place that lacks -/
def tgt (L : Nat → Nat) : Nat := ((List.range n).find? fun i => decide (L i < n - 1)).getD 0
def meas (L : Nat → Nat) (p : Nat) : Nat := lack n L * (n * n + 2) + (if L p < n - 1 then 0 else way n L (tgt n L) + 1)
end
theorem sum_le_of {f g : Nat → Nat} : ∀ l : List Nat, (∀ x ∈ l, f x ≤ g x) → (l.map f).sum ≤ (l.map g).sum
  | [], _ => Nat.le_refl _
  | x :: l, h => by
    rw [List.map_cons, List.map_cons, List.sum_cons, List.sum_cons]
    exact Nat.add_le_add (h x List.mem_cons_self) (sum_le_of l fun y hy => h y (List.mem_cons_of_mem _ hy))
theorem sum_lt_of {f g : Nat → Nat} : ∀ l : List Nat, (∀ x ∈ l, f x ≤ g x) → (∃ x ∈ l, f x < g x) → (l.map f).sum < (l.map g).sum
  | [], _, h => by obtain ⟨x, hx, _⟩ := h; cases hx
  | y :: l, h, ⟨x, hx, hl⟩ => by
    rw [List.map_cons, List.map_cons, List.sum_cons, List.sum_cons]
    have h1 := sum_le_of l fun z hz => h z (List.mem_cons_of_mem _ hz)
    have h2 := h y List.mem_cons_self
    rcases List.mem_cons.mp hx with e | e
    · subst e; omega
    · have := sum_lt_of l (fun z hz => h z (List.mem_cons_of_mem _ hz)) ⟨x, e, hl⟩
      omega
theorem sum_le_mul {f : Nat → Nat} {c : Nat} : ∀ l : List Nat, (∀ x ∈ l, f x ≤ c) → (l.map f).sum ≤ l.length * c
  | [], _ => by simp
  | x :: l, h => by
    rw [List.map_cons, List.sum_cons, List.length_cons, Nat.succ_mul]
    have h1 := sum_le_mul l fun z hz => h z (List.mem_cons_of_mem _ hz)
    have h2 := h x List.mem_cons_self
    omega
theorem way_le {n : Nat} (hn : 0 < n) (L : Nat → Nat) (t : Nat) : way n L t ≤ n * n := by
  unfold way
  have h := sum_le_mul (f := fun v => dist n L t v) (c := n) (List.range n) fun x _ => Nat.le_of_lt (Nat.mod_lt _ hn)
  rwa [List.length_range] at h
theorem tgt_spec {n : Nat} {L : Nat → Nat} (h : ∃ i, i < n ∧ L i < n - 1) : tgt n L < n ∧ L (tgt n L) < n - 1 := by
  unfold tgt
  cases e : (List.range n).find? fun i => decide (L i < n - 1) with
  | none =>
    obtain ⟨i, hi, hl⟩ := h
    have := List.find?_eq_none.mp e i (List.mem_range.mpr hi)
    simp at this
    omega
  | some t =>
    have h1 := List.find?_some e
    have h2 := List.mem_of_find?_eq_some e
    exact ⟨List.mem_range.mp h2, of_decide_eq_true h1⟩
theorem dist_step {n t x : Nat} (hn : 0 < n) : (t + (n - 1) * (x + 1)) % n = if (t + (n - 1) * x) % n = 0 then n - 1 else (t + (n - 1) * x) % n - 1 := by
  rw [Nat.mul_succ, ← Nat.add_assoc]
  generalize t + (n - 1) * x = y
  have hy := Nat.mod_lt y hn
  have e := Nat.div_add_mod y n
  by_cases h : y % n = 0
  · rw [if_pos h]
    have : y + (n - 1) = (n - 1) + n * (y / n) := by omega
    rw [this, Nat.add_mul_mod_self_left]
    exact Nat.mod_eq_of_lt (by omega)
  · rw [if_neg h]
    have h2 : y + (n - 1) = (y % n - 1) + n * (y / n + 1) := by rw [Nat.mul_add]; omega
    rw [h2, Nat.add_mul_mod_self_left]
    exact Nat.mod_eq_of_lt (by omega)
theorem dist_zero {n t x : Nat} (ht : t < n) (h : (t + (n - 1) * x) % n = 0) : x % n = t := by
  have hn : 0 < n := by omega
  have e : t + (n - 1) * x + x = t + n * x := by
    have : (n - 1) * x + x = n * x := by
      rw [← Nat.succ_mul, Nat.succ_eq_add_one, Nat.sub_add_cancel hn]
    omega
  have h1 : (t + (n - 1) * x + x) % n = x % n := by
    rw [Nat.add_mod, h, Nat.zero_add, Nat.mod_mod]
  rw [e, Nat.add_mul_mod_self_left, Nat.mod_eq_of_lt ht] at h1
  exact h1.symm
/-- the fall -/
theorem meas_step {n : Nat} {L L' : Nat → Nat} {p : Nat} (hp : p < n) (hnot : ∃ i, i < n ∧ L i < n - 1)
    (h1 : L' p = L p + 1) (h2 : ∀ i, i < n → L i ≤ L' i) (h3 : n - 1 ≤ L p → ∀ i, i < n → i ≠ p → L' i = L i) : meas n L' ((p + L p + 1) % n) < meas n L p := by
  have hn : 0 < n := by omega
  unfold meas
  by_cases hb : L p < n - 1
  · rw [if_pos hb]
    have hl : lack n L' < lack n L := by
      unfold lack
      refine sum_lt_of _ (fun i hi => ?_) ⟨p, List.mem_range.mpr hp, by rw [h1]; omega⟩
      have := h2 i (List.mem_range.mp hi)
      omega
    have hw : (if L' ((p + L p + 1) % n) < n - 1 then 0 else way n L' (tgt n L') + 1) ≤ n * n + 1 := by
      split
      · omega
      · have := way_le hn L' (tgt n L')
        omega
    have : (lack n L' + 1) * (n * n + 2) ≤ lack n L * (n * n + 2) := Nat.mul_le_mul_right _ hl
    rw [Nat.succ_mul] at this
    omega
  · rw [if_neg hb]
    have hbig : n - 1 ≤ L p := by omega
    have same := h3 hbig
    have hlow : ∀ i, i < n → (L' i < n - 1 ↔ L i < n - 1) := fun i hi => by
      by_cases e : i = p
      · rw [e, h1]; omega
      · rw [same i hi e]
    have hl : lack n L' = lack n L := by
      unfold lack
      congr 1
      refine List.map_congr_left fun i hi => ?_
      by_cases e : i = p
      · rw [e, h1]; omega
      · rw [same i (List.mem_range.mp hi) e]
    have ht : tgt n L' = tgt n L := by
      have hf : ∀ l : List Nat, (∀ x ∈ l, x < n) → (l.find? fun i => decide (L' i < n - 1)) = l.find? fun i => decide (L i < n - 1) := by
        intro l
        induction l with
        | nil => intro _; rfl
        | cons x l ih =>
          intro hx
          have e : decide (L' x < n - 1) = decide (L x < n - 1) := decide_eq_decide.mpr (hlow x (hx x List.mem_cons_self))
          simp only [List.find?, e, ih fun y hy => hx y (List.mem_cons_of_mem _ hy)]
      unfold tgt
      rw [hf _ fun x hx => List.mem_range.mp hx]
    obtain ⟨t1, t2⟩ := tgt_spec hnot
    rw [hl, ht]
    by_cases hz : dist n L (tgt n L) p = 0
    · have e : (p + L p + 1) % n = tgt n L := dist_zero t1 hz
      rw [e, if_pos ((hlow _ t1).mpr t2)]
      omega
    · have hd : way n L' (tgt n L) < way n L (tgt n L) := by
        unfold way
        have hpd : dist n L' (tgt n L) p < dist n L (tgt n L) p := by
          have e : dist n L' (tgt n L) p = dist n L (tgt n L) p - 1 := by
            have z := dist_step (n := n) (t := tgt n L) (x := p + L p + 1) hn
            rw [if_neg (show ¬ (tgt n L + (n - 1) * (p + L p + 1)) % n = 0 from hz)] at z
            unfold dist
            rw [h1, show p + (L p + 1) + 1 = p + L p + 1 + 1 by omega]
            exact z
          have : 0 < dist n L (tgt n L) p := Nat.pos_of_ne_zero hz
          omega
        refine sum_lt_of _ (fun i hi => ?_) ⟨p, List.mem_range.mpr hp, hpd⟩
        by_cases e : i = p
        · rw [e]; exact Nat.le_of_lt hpd
        · unfold dist; rw [same i (List.mem_range.mp hi) e]; exact Nat.le_refl _
      split <;> omega
end Mw
/-! M2: the least part that makes a loop: plain mathematics. -/
namespace Mw
/-- l is its first d letters, said over -/
def Per (l : List Nat) (d : Nat) : Prop := 0 < d ∧ l.length % d = 0 ∧ ∀ k, k < l.length → l.getD k 0 = l.getD (k % d) 0
instance (l : List Nat) (d : Nat) : Decidable (Per l d) := by
  unfold Per
  exact inferInstance
theorem getD_get {l : List Nat} {k : Nat} (h : k < l.length) : l[k]? = some (l.getD k 0) := by
  rw [List.getD_eq_getElem?_getD, List.getElem?_eq_getElem h]
  rfl
theorem ext_getD {l m : List Nat} (hl : l.length = m.length) (h : ∀ k, k < l.length → l.getD k 0 = m.getD k 0) : l = m := by
  apply List.ext_getElem?
  intro k
  by_cases q : k < l.length
  · rw [getD_get q, getD_get (hl ▸ q), h k q]
  · rw [List.getElem?_eq_none (by omega), List.getElem?_eq_none (by omega)]
theorem getD_appL {l m : List Nat} {i : Nat} (h : i < l.length) : (l ++ m).getD i 0 = l.getD i 0 := by
  rw [List.getD_eq_getElem?_getD, List.getD_eq_getElem?_getD, List.getElem?_append_left h]
theorem getD_appR {l m : List Nat} {i : Nat} (h : l.length ≤ i) : (l ++ m).getD i 0 = m.getD (i - l.length) 0 := by
  rw [List.getD_eq_getElem?_getD, List.getD_eq_getElem?_getD, List.getElem?_append_right h]
def repN (k : Nat) (l : List Nat) : List Nat := (List.replicate k l).flatten
theorem repN_len (k : Nat) (l : List Nat) : (repN k l).length = k * l.length := by
  unfold repN
  induction k with
  | zero => simp
  | succ k ih => rw [List.replicate_succ, List.flatten_cons, List.length_append, ih, Nat.succ_mul, Nat.add_comm]
theorem repN_get {k : Nat} {l : List Nat} : ∀ {i : Nat}, i < k * l.length → (repN k l).getD i 0 = l.getD (i % l.length) 0 := by
  induction k with
  | zero => intro i h; omega
  | succ k ih =>
    intro i h
    have e : repN (k + 1) l = l ++ repN k l := by unfold repN; rw [List.replicate_succ, List.flatten_cons]
    rw [e]
    by_cases q : i < l.length
    · rw [getD_appL q, Nat.mod_eq_of_lt q]
    · have h2 : i - l.length < k * l.length := by rw [Nat.succ_mul] at h; omega
      have e3 : i % l.length = (i - l.length) % l.length := Nat.mod_eq_sub_mod (by omega)
      rw [getD_appR (by omega), ih h2, e3]
theorem take_getD {l : List Nat} {d k : Nat} (h : k < d) : (l.take d).getD k 0 = l.getD k 0 := by
  rw [List.getD_eq_getElem?_getD, List.getD_eq_getElem?_getD, List.getElem?_take_of_lt h]
theorem drop_getD {l : List Nat} {d k : Nat} : (l.drop d).getD k 0 = l.getD (d + k) 0 := by
  rw [List.getD_eq_getElem?_getD, List.getD_eq_getElem?_getD, List.getElem?_drop]
theorem per_iff_rep {l : List Nat} {d : Nat} (h0 : 0 < d) (hd : d ≤ l.length) : l = repN (l.length / d) (l.take d) ↔ Per l d := by
  have hlen : (l.take d).length = d := by rw [List.length_take]; omega
  constructor
  · intro e
    have e1 := congrArg List.length e
    rw [repN_len, hlen] at e1
    have e2 := Nat.div_add_mod l.length d
    rw [Nat.mul_comm] at e2
    refine ⟨h0, by omega, fun k hk => ?_⟩
    have e3 : l.getD k 0 = (repN (l.length / d) (l.take d)).getD k 0 := by rw [← e]
    rw [e3, repN_get (by rw [hlen]; omega), hlen, take_getD (Nat.mod_lt _ h0)]
  · intro ⟨_, h1, h2⟩
    have e2 := Nat.div_add_mod l.length d
    rw [Nat.mul_comm] at e2
    refine ext_getD (by rw [repN_len, hlen]; omega) fun k hk => ?_
    rw [repN_get (by rw [hlen]; omega), hlen, take_getD (Nat.mod_lt _ h0), ← h2 k hk]
theorem per_iff_shift {l : List Nat} {d : Nat} (h0 : 0 < d) (hd : d ≤ l.length) : (l.length % d = 0 ∧ l.drop d = l.take (l.length - d)) ↔ Per l d := by
  constructor
  · intro ⟨h1, h2⟩
    have h3 : ∀ k, d + k < l.length → l.getD (d + k) 0 = l.getD k 0 := fun k hk => by
      rw [← drop_getD, h2, take_getD (by omega)]
    refine ⟨h0, h1, fun k => ?_⟩
    induction k using Nat.strongRecOn with
    | ind k ih =>
      intro hk
      by_cases q : k < d
      · rw [Nat.mod_eq_of_lt q]
      · have e := h3 (k - d) (by omega)
        rw [show d + (k - d) = k by omega] at e
        rw [e, ih (k - d) (by omega) (by omega), ← Nat.mod_eq_sub_mod (by omega)]
  · intro ⟨_, h1, h2⟩
    refine ⟨h1, ext_getD (by rw [List.length_drop, List.length_take]; omega) fun k hk => ?_⟩
    rw [List.length_drop] at hk
    rw [drop_getD, take_getD (by omega), h2 (d + k) (by omega), h2 k (by omega), Nat.add_mod_left]
theorem per_all {l : List Nat} (h : 0 < l.length) : Per l l.length := ⟨h, Nat.mod_self _, fun k hk => by rw [Nat.mod_eq_of_lt hk]⟩
/-- d is the length of the least part -/
def IsRoot (l : List Nat) (d : Nat) : Prop := Per l d ∧ ∀ e, e < d → ¬ Per l e
theorem IsRoot.uniq {l : List Nat} {d e : Nat} (h : IsRoot l d) (h' : IsRoot l e) : d = e := by
  rcases Nat.lt_trichotomy d e with q | q | q
  · exact absurd h.1 (h'.2 d q)
  · exact q
  · exact absurd h'.1 (h.2 e q)
theorem root_ex {l : List Nat} (h : 0 < l.length) : ∃ d, IsRoot l d ∧ d ≤ l.length := by
  have : ∀ n, (∃ d, d ≤ n ∧ Per l d) → ∃ d, IsRoot l d ∧ d ≤ n := by
    intro n
    induction n with
    | zero =>
      intro ⟨d, h1, h2⟩
      exact absurd h2.1 (by omega)
    | succ n ih =>
      intro ⟨d, h1, h2⟩
      by_cases q : ∃ d, d ≤ n ∧ Per l d
      · obtain ⟨e, a, c⟩ := ih q
        exact ⟨e, a, by omega⟩
      · have e : d = n + 1 := by
          by_cases z : d ≤ n
          · exact absurd ⟨d, z, h2⟩ q
          · omega
        subst e
        exact ⟨n + 1, ⟨h2, fun e he p => q ⟨e, by omega, p⟩⟩, Nat.le_refl _⟩
  exact this l.length ⟨_, Nat.le_refl _, per_all h⟩
theorem per_base {l : List Nat} {d e : Nat} (hd : d ≤ l.length) (h : Per l d) (h' : Per (l.take d) e) : Per l e := by
  obtain ⟨a1, a2, a3⟩ := h
  obtain ⟨c1, c2, c3⟩ := h'
  have hlen : (l.take d).length = d := by rw [List.length_take]; omega
  rw [hlen] at c2 c3
  have q2 : l.length % e = 0 := by
    have e1 := Nat.div_add_mod l.length d
    have e2 := Nat.div_add_mod d e
    rw [a2] at e1
    rw [c2] at e2
    have e3 : l.length = e * (d / e * (l.length / d)) := by
      rw [← Nat.mul_assoc]
      have : e * (d / e) = d := by omega
      rw [this]
      omega
    rw [e3]
    exact Nat.mul_mod_right _ _
  have hed : e ≤ d := Nat.le_of_dvd a1 (Nat.dvd_of_mod_eq_zero c2)
  refine ⟨c1, q2, fun k hk => ?_⟩
  have k1 := Nat.mod_lt k a1
  have s1 := c3 (k % d) k1
  have k2 : k % d % e < d := Nat.lt_of_lt_of_le (Nat.mod_lt _ c1) hed
  rw [take_getD k1, take_getD k2] at s1
  rw [a3 k hk, s1]
  have e4 : k % d % e = k % e := Nat.mod_mod_of_dvd k (Nat.dvd_of_mod_eq_zero c2)
  rw [e4]
/-! ### unlike places of such a part have unlike words -/
theorem wd_sum (b : List Nat) (hb : 0 < b.length) : ∀ i, (wd b i b.length).sum = (wd b 0 b.length).sum
  | 0 => rfl
  | i + 1 => by
    have ih := wd_sum b hb i
    rw [← ih]
    obtain ⟨n, hn⟩ : ∃ n, b.length = n + 1 := ⟨b.length - 1, by omega⟩
    have e1 : (wd b (i + 1) (n + 1)).sum = (wd b (i + 1) n).sum + b.getD ((i + 1 + n) % b.length) 0 := by
      rw [wd_succ, List.sum_append]
      simp
    have e2 : (wd b i (n + 1)).sum = b.getD (i % b.length) 0 + (wd b (i + 1) n).sum := by
      unfold wd
      rw [List.range_succ_eq_map, List.map_cons, List.sum_cons, List.map_map, Nat.add_zero]
      congr 2
      refine List.map_congr_left fun k _ => ?_
      show b.getD ((i + (k + 1)) % b.length) 0 = b.getD ((i + 1 + k) % b.length) 0
      rw [show i + (k + 1) = i + 1 + k by omega]
    rw [hn, e1, e2, hn]
    have e3 : (i + 1 + n) % (n + 1) = i % (n + 1) := by
      rw [show i + 1 + n = i + (n + 1) by omega, Nat.add_mod_right]
    rw [e3]
    omega
theorem wd_last {b : List Nat} {i j : Nat} (hb : 0 < b.length) (h : wd b i (b.length - 1) = wd b j (b.length - 1)) : wd b i b.length = wd b j b.length := by
  obtain ⟨n, hn⟩ : ∃ n, b.length = n + 1 := ⟨b.length - 1, by omega⟩
  have s1 := wd_sum b hb i
  have s2 := wd_sum b hb j
  rw [hn] at s1 s2 h ⊢
  rw [show n + 1 - 1 = n by omega] at h
  rw [wd_succ] at s1 ⊢
  rw [wd_succ (i := j)] at s2 ⊢
  rw [List.sum_append] at s1 s2
  simp only [List.sum_cons, List.sum_nil, Nat.add_zero] at s1 s2
  rw [h] at s1 ⊢
  have : b.getD ((i + n) % b.length) 0 = b.getD ((j + n) % b.length) 0 := by omega
  rw [this]
/-- e letters on stands the same, everywhere -/
def Shf (b : List Nat) (e : Nat) : Prop := ∀ x, b.getD ((x + e) % b.length) 0 = b.getD (x % b.length) 0
theorem shf_mul {b : List Nat} {e : Nat} (h : Shf b e) : ∀ k, Shf b (k * e)
  | 0 => fun x => by rw [Nat.zero_mul, Nat.add_zero]
  | k + 1 => fun x => by
    rw [Nat.succ_mul, ← Nat.add_assoc, h (x + k * e)]
    exact shf_mul h k x
theorem shf_of_words {b : List Nat} {i j : Nat} (hb : 0 < b.length) (hi : i < b.length) (hij : i ≤ j) (h : wd b i b.length = wd b j b.length) : Shf b (j - i) := by
  have hk : ∀ k, k < b.length → b.getD ((i + k) % b.length) 0 = b.getD ((j + k) % b.length) 0 := fun k hk => by
    have e1 := wd_get (b := b) (i := i) hk
    have e2 := wd_get (b := b) (i := j) hk
    rw [h, e2] at e1
    exact (Option.some.inj e1).symm
  intro x
  have hx := hk ((x + (b.length - i)) % b.length) (Nat.mod_lt _ hb)
  have a1 : (i + (x + (b.length - i)) % b.length) % b.length = x % b.length := by
    rw [Nat.add_mod_mod, show i + (x + (b.length - i)) = x + b.length by omega, Nat.add_mod_right]
  have a2 : (j + (x + (b.length - i)) % b.length) % b.length = (x + (j - i)) % b.length := by
    rw [Nat.add_mod_mod, show j + (x + (b.length - i)) = x + (j - i) + b.length by omega, Nat.add_mod_right]
  rw [a1, a2] at hx
  exact hx.symm
theorem per_of_shf {b : List Nat} {e : Nat} (he : 0 < e) (hd : b.length % e = 0) (hb : 0 < b.length) (h : Shf b e) : Per b e := by
  refine ⟨he, hd, fun k hk => ?_⟩
  have e1 := shf_mul h (k / e) (k % e)
  have e2 : k % e + k / e * e = k := by
    have := Nat.div_add_mod k e
    rw [Nat.mul_comm] at this
    omega
  rw [e2, Nat.mod_eq_of_lt hk] at e1
  have h3 : k % e < b.length := by
    have := Nat.mod_le k e
    omega
  rw [Nat.mod_eq_of_lt h3] at e1
  exact e1
theorem shf_least {b : List Nat} (hb : 0 < b.length) : ∀ (n e : Nat), e ≤ n → 0 < e → e < b.length → Shf b e → ∃ g, 0 < g ∧ g < b.length ∧ b.length % g = 0 ∧ Shf b g
  | 0, e, h1, h2, _, _ => by omega
  | n + 1, e, h1, h2, h3, h4 => by
    by_cases q : b.length % e = 0
    · exact ⟨e, h2, h3, q, h4⟩
    · have hr := Nat.mod_lt b.length h2
      refine shf_least hb n (b.length % e) (by omega) (by omega) (by omega) fun x => ?_
      have e1 := shf_mul h4 (b.length / e) (x + b.length % e)
      have e2 : x + b.length % e + b.length / e * e = x + b.length := by
        have := Nat.div_add_mod b.length e
        rw [Nat.mul_comm] at this
        omega
      rw [e2, Nat.add_mod_right] at e1
      exact e1.symm
theorem prim_of_root {l : List Nat} {d : Nat} (hd : d ≤ l.length) (h : IsRoot l d) : Prim (l.take d) := by
  have hlen : (l.take d).length = d := by rw [List.length_take]; omega
  have hb : 0 < (l.take d).length := by rw [hlen]; exact h.1.1
  have key : ∀ i j, i < j → i < (l.take d).length → j < (l.take d).length → wd (l.take d) i ((l.take d).length - 1) = wd (l.take d) j ((l.take d).length - 1) → False := fun i j hij hi hj e => by
    have s := shf_of_words hb hi (Nat.le_of_lt hij) (wd_last hb e)
    obtain ⟨g, g1, g2, g3, g4⟩ := shf_least hb (j - i) (j - i) (Nat.le_refl _) (by omega) (by omega) s
    have p := per_of_shf g1 g3 hb g4
    exact h.2 g (by omega) (per_base hd h.1 p)
  intro i j hi hj e
  rcases Nat.lt_trichotomy i j with q | q | q
  · exact (key i j q hi hj e).elim
  · exact q
  · exact (key j i q hj hi e.symm).elim
end Mw
/-! P0: how readings are run: comprehensions, loops, membership. -/
namespace Y
open PySem PySem.Spec PyProof.Rows L2

/-! ### comprehensions -/
/-- each turn asks nothing of what is owned and gives p, f -/
def Turn (tk : TK) (tt : DT) (te : DE) (vs : List Nat) (σ : DSt) (G : Gp) (x : D) (b : Bool) (y : D) : Prop :=
  ∀ (T : D → Gp → Prop) (Fs : Gp → Prop), (b = true → T y G) → (b = false → Fs G) → tk.d x (dwipe σ vs) G X0 fun σ2 G2 => tt σ2 G2 X0 fun b G3 => match b with
    | true => te σ2 G3 X0 T
    | false => Fs G3
theorem turns_pure {tk : TK} {tt : DT} {te : DE} {vs : List Nat} {σ : DSt} {G : Gp} {k : List D → Gp → Prop} {p : D → Bool} {f : D → D} : ∀ {xs acc : List D}, (∀ x ∈ xs, Turn tk tt te vs σ G x (p x) (f x)) → acc.length + xs.length ≤ 10000000 → k (acc ++ (xs.filter p).map f) G → dTurns tk tt te vs σ xs acc G k
  | [], acc, _, _, hk => by
    rw [List.filter_nil, List.map_nil, List.append_nil] at hk
    exact hk
  | x :: xs, acc, h, hl, hk => by
    rw [List.length_cons] at hl
    refine h x List.mem_cons_self _ _ (fun e => ⟨by omega, ?_⟩) fun e => ?_
    · rw [List.filter_cons_of_pos e, List.map_cons] at hk
      refine turns_pure (fun y hy => h y (List.mem_cons_of_mem _ hy)) (by rw [List.length_append, List.length_singleton]; omega) ?_
      rw [List.append_assoc]
      exact hk
    · rw [List.filter_cons_of_neg (by rw [e]; exact Bool.false_ne_true)] at hk
      exact turns_pure (fun y hy => h y (List.mem_cons_of_mem _ hy)) (by omega) hk
/-- each turn gives one -/
theorem turns_map {tk : TK} {te : DE} {vs : List Nat} {σ : DSt} {G : Gp} {k : List D → Gp → Prop} {f : D → D} {xs : List D} (h : ∀ x ∈ xs, Turn tk dYes te vs σ G x true (f x)) (hl : xs.length ≤ 10000000) (hk : k (xs.map f) G) : dTurns tk dYes te vs σ xs [] G k := by
  refine turns_pure (p := fun _ => true) (f := f) h (by simpa using hl) ?_
  rw [List.nil_append, List.filter_eq_self.mpr fun _ _ => rfl]
  exact hk
/-- turns that change what is owned: an invariant of how many are done and what has come -/
theorem turns_inv {tk : TK} {tt : DT} {te : DE} {vs : List Nat} {σ : DSt} {k : List D → Gp → Prop} (I : Nat → List D → Gp → Prop) : ∀ {xs : List D} {i : Nat} {acc : List D} {G : Gp}, I i acc G → acc.length + xs.length ≤ 10000000 →
    (∀ j x acc G, xs[j]? = some x → I (i + j) acc G → ∀ (T : D → Gp → Prop) (Fs : Gp → Prop), (∀ y G', I (i + j + 1) (acc ++ [y]) G' → T y G') → (∀ G', I (i + j + 1) acc G' → Fs G') → tk.d x (dwipe σ vs) G X0 fun σ2 G2 => tt σ2 G2 X0 fun b G3 => match b with
      | true => te σ2 G3 X0 T
      | false => Fs G3) → (∀ acc G, I (i + xs.length) acc G → k acc G) → dTurns tk tt te vs σ xs acc G k
  | [], i, acc, G, h0, _, _, hk => hk acc G h0
  | x :: xs, i, acc, G, h0, hl, h, hk => by
    rw [List.length_cons] at hl hk
    have nx : ∀ acc' G', I (i + 1) acc' G' → acc'.length + xs.length ≤ 10000000 → dTurns tk tt te vs σ xs acc' G' k := fun acc' G' h' hl' =>
      turns_inv I h' hl' (fun j y ac Gp hy hi => by
        have := h (j + 1) y ac Gp (by simpa using hy)
        rw [show i + (j + 1) = i + 1 + j by omega] at this
        exact this hi) fun ac Gp hI => hk ac Gp (by rw [show i + (xs.length + 1) = i + 1 + xs.length by omega]; exact hI)
    have := h 0 x acc G (by simp) h0
    exact this _ _ (fun y G' hI => ⟨by omega, nx _ _ hI (by rw [List.length_append, List.length_singleton]; omega)⟩) fun G' hI => nx _ _ hI (by omega)
/-! ### dict comprehensions -/
theorem turnsD_pure {tk : TK} {te : DE} {tv : DE} {vs : List Nat} {σ : DSt} {G : Gp} {k : List (DKey × D) → Gp → Prop} {f : D → DKey × D} : ∀ {xs : List D} {acc : List (DKey × D)},
    (∀ x ∈ xs, ∀ T : D → D → Gp → Prop, (∀ y, keyOf y = some (f x).1 → T y (f x).2 G) → tk.d x (dwipe σ vs) G X0 fun σ2 G2 => te σ2 G2 X0 fun y G3 => tv σ2 G3 X0 fun z G4 => T y z G4) → acc.length + xs.length ≤ 10000000 → k (dmerge acc (xs.map f)) G → dTurnsD tk dYes te tv vs σ xs acc G k
  | [], acc, _, _, hk => hk
  | x :: xs, acc, h, hl, hk => by
    rw [List.length_cons] at hl
    refine h x List.mem_cons_self (fun y z G5 => match keyOf y with
      | some key => acc.length < 10000000 ∧ dTurnsD tk dYes te tv vs σ xs (dput acc key z) G5 k
      | none => False) fun y hy => ?_
    show match keyOf y with
      | some key => acc.length < 10000000 ∧ dTurnsD tk dYes te tv vs σ xs (dput acc key (f x).2) G k
      | none => False
    rw [hy]
    have hp := dput_len acc (f x).1 (f x).2
    exact ⟨by omega, turnsD_pure (fun y hy => h y (List.mem_cons_of_mem _ hy)) (by omega) hk⟩
/-! ### numbers in a row -/
theorem numsFrom_len {lo : Int} {n : Nat} : (numsFrom lo n).length = n := by unfold numsFrom; rw [List.length_map, List.length_range]
theorem numsFrom_mem {lo : Int} {n : Nat} {x : D} (h : x ∈ numsFrom lo n) : ∃ i, i < n ∧ x = .int (lo + (i : Int)) := by
  unfold numsFrom at h
  obtain ⟨i, hi, e⟩ := List.mem_map.mp h
  exact ⟨i, List.mem_range.mp hi, e.symm⟩
theorem numsFrom_get {lo : Int} {n i : Nat} (h : i < n) : (numsFrom lo n)[i]? = some (.int (lo + (i : Int))) := by
  unfold numsFrom
  rw [List.getElem?_map, List.getElem?_range h]
  rfl
theorem find_first {α : Type} {p : α → Bool} : ∀ {xs : List α} {i : Nat} {x : α}, xs[i]? = some x → p x = true → (∀ j y, j < i → xs[j]? = some y → p y = false) → xs.find? p = some x
  | [], i, x, h, _, _ => by simp at h
  | y :: ys, 0, x, h, hp, _ => by
    have e : y = x := by simpa using h
    subst e
    rw [List.find?_cons_of_pos hp]
  | y :: ys, i + 1, x, h, hp, hb => by
    have e := hb 0 y (by omega) (by simp)
    rw [List.find?_cons_of_neg (by rw [e]; exact Bool.false_ne_true)]
    exact find_first (by simpa using h) hp fun j z hj hz => hb (j + 1) z (by omega) (by simpa using hz)
theorem atI_n {α : Type} {xs : List α} {i : Nat} {x : α} (h : xs[i]? = some x) : atI xs (i : Int) = some x := by
  have hi := (List.getElem?_eq_some_iff.mp h).1
  unfold atI ixN
  rw [if_pos (by omega), if_pos (by omega)]
  simpa using h
theorem atI_0 {α : Type} {xs : List α} {x : α} (h : xs[0]? = some x) : atI xs 0 = some x := atI_n (i := 0) h
theorem atI_getD {l : List Nat} {i : Int} (h0 : 0 ≤ i) (h1 : i.toNat < l.length) : atI l i = some (l.getD i.toNat 0) := by
  have e := atI_n (xs := l) (i := i.toNat) (Mw.getD_get h1)
  rwa [Int.toNat_of_nonneg h0] at e
/-! ### slices -/
theorem sIx_nat {n d : Nat} {i : Int} (h : 0 ≤ i) : HT.sIx n d (some i) = min i.toNat n := by
  show (if i < 0 then (i + (n : Int)).toNat else min i.toNat n) = min i.toNat n
  rw [if_neg (by omega)]
theorem sIx_none {n d : Nat} : HT.sIx n d none = d := rfl
theorem cut_to {α : Type} {xs : List α} {i : Int} (h : 0 ≤ i) : cutL xs none (some i) = xs.take i.toNat := by
  unfold cutL
  rw [sIx_none, sIx_nat h, List.drop_zero, Nat.sub_zero]
  by_cases q : i.toNat ≤ xs.length
  · rw [Nat.min_eq_left q]
  · rw [Nat.min_eq_right (by omega), List.take_of_length_le (Nat.le_refl _), List.take_of_length_le (by omega)]
theorem cut_from {α : Type} {xs : List α} {i : Int} (h : 0 ≤ i) : cutL xs (some i) none = xs.drop i.toNat := by
  unfold cutL
  rw [sIx_none, sIx_nat h]
  by_cases q : i.toNat ≤ xs.length
  · rw [Nat.min_eq_left q, List.take_of_length_le (by rw [List.length_drop]; omega)]
  · rw [Nat.min_eq_right (by omega), List.drop_of_length_le (Nat.le_refl _), List.drop_of_length_le (by omega), List.take_nil]
theorem cut_part {α : Type} {xs : List α} {i j : Int} (h : 0 ≤ i) (hj : i ≤ j) : cutL xs (some i) (some j) = (xs.drop i.toNat).take (j.toNat - i.toNat) := by
  unfold cutL
  rw [sIx_nat h, sIx_nat (by omega)]
  by_cases q : i.toNat ≤ xs.length
  · rw [Nat.min_eq_left q]
    by_cases q2 : j.toNat ≤ xs.length
    · rw [Nat.min_eq_left q2]
    · rw [Nat.min_eq_right (by omega), List.take_of_length_le (by rw [List.length_drop]; omega), List.take_of_length_le (by rw [List.length_drop]; omega)]
  · rw [Nat.min_eq_right (show xs.length ≤ j.toNat by omega), Nat.min_eq_right (show xs.length ≤ i.toNat by omega), List.drop_of_length_le (Nat.le_refl _), List.drop_of_length_le (show xs.length ≤ i.toNat by omega), List.take_nil, List.take_nil]
theorem cut_butlast {α : Type} {xs : List α} : cutL xs none (some (-1)) = xs.dropLast := by
  unfold cutL
  rw [sIx_none, List.drop_zero, Nat.sub_zero, List.dropLast_eq_take]
  congr 1
  show (if (-1 : Int) < 0 then ((-1 : Int) + (xs.length : Int)).toNat else min (-1 : Int).toNat xs.length) = _
  rw [if_pos (by decide)]
  omega
/-! ### membership -/
theorem inB_dic {G : Gp} {p : Addr} {kvs : List (DKey × D)} {x : List Nat} {Q : Bool → Prop} (h : G p = some (.dic kvs)) (q : Q (dlook kvs (.inr x)).isSome) : oInB (.str x) (.ref p) G Q := by
  show match G p with
    | some (.dic kvs) => match keyOf (.str x) with
      | some k => Q (dlook kvs k).isSome
      | none => False
    | some (.lst ds) => (flatD (.str x) = true ∧ ds.all flatD = true) ∧ Q (ds.any fun d => eqD d (.str x))
    | _ => False
  rw [h]
  exact q
theorem eqD_str {a b : List Nat} : eqD (.str a) (.str b) = decide (a = b) := by
  show decide (St a = St b) = decide (a = b)
  by_cases e : a = b
  · subst e; simp
  · rw [decide_eq_false e, decide_eq_false fun z => e (St_inj z)]
theorem eqD_int {a b : Int} : eqD (.int a) (.int b) = decide (a = b) := rfl
/-! ### isinstance -/
theorem isi_of {G : Gp} {Q : DK} {d : D} {T a : String} (e : tyName G d = some a) (hT : T = "str" ∨ T = "int" ∨ T = "bool" ∨ T = "tuple" ∨ T = "list" ∨ T = "dict") (q : Q (.bl (subT a T)) G) : cIsi [d, .ty T] G Q := ⟨d, T, a, rfl, hT, e, q⟩
/-! ### calls, by what they tell -/
section
variable {G : Gp} {Q : DK} {d : D}
theorem len_of {n : Nat} (e : lenD G d = some n) (h : n ≤ 10000000) (q : Q (.int n) G) : cLen [d] G Q := ⟨d, n, rfl, e, h, q⟩
theorem all_of {bs : List Bool} (e : seqL G d = some (bs.map D.bl)) (q : Q (.bl (bs.all id)) G) : cAll [d] G Q := ⟨d, bs, rfl, e, q⟩
theorem any_of {bs : List Bool} (e : seqL G d = some (bs.map D.bl)) (q : Q (.bl (bs.any id)) G) : cAny [d] G Q := ⟨d, bs, rfl, e, q⟩
theorem sum_of {ns : List Int} (e : seqL G d = some (ns.map D.int)) (q : Q (.int ns.sum) G) : cSum [d] G Q := ⟨d, ns, rfl, e, q⟩
theorem tup_of {ds : List D} (e : seqR G d = some ds) (q : Q (.tup ds) G) : cTup [d] G Q := ⟨d, ds, rfl, e, q⟩
theorem lst_of {ds : List D} (e : seqR G d = some ds) (q : Q (.lst ds) G) : cLst [d] G Q := ⟨d, ds, rfl, e, q⟩
theorem lstM_of {ds : List D} (e : seqR G d = some ds) (q : ∀ p, G p = none → Q (.ref p) (G.set p (.lst ds))) : cLstM [d] G Q := ⟨d, ds, rfl, e, q⟩
theorem min1_of {n : Int} {ns : List Int} (e : seqR G d = some ((n :: ns).map D.int)) (q : Q (.int (ns.foldl min n)) G) : cMin1 [d] G Q := ⟨d, n, ns, rfl, e, q⟩
theorem max1_of {n : Int} {ns : List Int} (e : seqR G d = some ((n :: ns).map D.int)) (q : Q (.int (ns.foldl max n)) G) : cMax1 [d] G Q := ⟨d, n, ns, rfl, e, q⟩
theorem min2_of {i j : Int} (q : Q (.int (if j < i then j else i)) G) : cMin2 [.int i, .int j] G Q := ⟨i, j, rfl, q⟩
theorem max2_of {i j : Int} (q : Q (.int (if j > i then j else i)) G) : cMax2 [.int i, .int j] G Q := ⟨i, j, rfl, q⟩
theorem repr_of {ds : D} (e : res G d = ds) (h1 : isRow ds = true) (h2 : sh 60 ds = true) (h3 : (py ds).showable = true) (h4 : (py ds).shown.length ≤ 10000000) (q : Q (.str (py ds).shown.cps.toList) G) : cRepr [d] G Q := by
  subst e
  exact ⟨d, rfl, h1, h2, h3, h4, q⟩
theorem dictP_of {kvs : List (DKey × D)} (e : seqL G d = some (kvs.map fun p => D.tup [kD p.1, p.2])) (q : ∀ p, G p = none → Q (.ref p) (G.set p (.dic (dmerge [] kvs)))) : cDictP [d] G Q := ⟨d, kvs, rfl, e, q⟩
theorem eq_str {a b : List Nat} (q : Q (.bl (decide (a = b))) G) : oEq (.str a) (.str b) G Q := q
theorem ne_str {a b : List Nat} (q : Q (.bl (!decide (a = b))) G) : oNe (.str a) (.str b) G Q := q
theorem eq_int {a b : Int} (q : Q (.bl (decide (a = b))) G) : oEq (.int a) (.int b) G Q := q
theorem ne_int {a b : Int} (q : Q (.bl (!decide (a = b))) G) : oNe (.int a) (.int b) G Q := q
theorem all_rep {n : Nat} : (List.replicate n true).all id = true := by rw [List.all_eq_true]; intro x hx; rw [(List.mem_replicate.mp hx).2]; rfl
/-- all(..) of turns that all give True -/
theorem all_true {xs : List D} {f : D → D} (h : ∀ x ∈ xs, f x = .bl true) (q : Q (.bl true) G) : cAll [.lst (xs.map f)] G Q := by
  refine all_of (bs := List.replicate xs.length true) ?_ (by rw [all_rep]; exact q)
  show some _ = some _
  congr 1
  rw [List.map_replicate, List.eq_replicate_iff]
  exact ⟨by rw [List.length_map], fun x hx => by obtain ⟨w, hw, rfl⟩ := List.mem_map.mp hx; exact h w hw⟩
end
/-! ### operators on what is known: equations -/
section
variable {G : Gp} {Q : DK} {i j : Int} {a b : List Nat} {xs ys : List D} {x y : D} {lo hi : Option Int}
theorem e_add_int : oAdd (.int i) (.int j) G Q = Q (.int (i + j)) G := rfl
theorem e_add_str : oAdd (.str a) (.str b) G Q = (a.length + b.length ≤ 10000000 ∧ Q (.str (a ++ b)) G) := rfl
theorem e_add_tup : oAdd (.tup xs) (.tup ys) G Q = (xs.length + ys.length ≤ 10000000 ∧ Q (.tup (xs ++ ys)) G) := rfl
theorem e_add_lst : oAdd (.lst xs) (.lst ys) G Q = (xs.length + ys.length ≤ 10000000 ∧ Q (.lst (xs ++ ys)) G) := rfl
theorem e_iadd_int : oIAdd (.int i) (.int j) G Q = Q (.int (i + j)) G := rfl
theorem e_iadd_str : oIAdd (.str a) (.str b) G Q = (a.length + b.length ≤ 10000000 ∧ Q (.str (a ++ b)) G) := rfl
theorem e_sub : oSub (.int i) (.int j) G Q = Q (.int (i - j)) G := rfl
theorem e_neg : oNeg (.int i) G Q = Q (.int (-i)) G := rfl
theorem e_mod : oMod (.int i) (.int j) G Q = (0 < j ∧ Q (.int (i % j)) G) := rfl
theorem e_div : oDiv (.int i) (.int j) G Q = ((0 < j ∧ j.natAbs < BB) ∧ Q (.int (i / j)) G) := rfl
theorem e_pow : oPow (.int i) (.int j) G Q = ((0 ≤ j ∧ j ≤ 1000 ∧ i.natAbs < BB) ∧ Q (.int (i ^ j.toNat)) G) := rfl
theorem e_mul_int : oMul (.int i) (.int j) G Q = ((i.natAbs < BB ∧ j.natAbs < BB) ∧ Q (.int (i * j)) G) := rfl
theorem e_mul_str : oMul (.str a) (.int j) G Q = ((j < 1000000 ∧ a.length * j.toNat ≤ 10000000 ∧ -1000000 < j) ∧ Q (.str (rep j.toNat a)) G) := rfl
theorem e_mul_lst : oMul (.lst xs) (.int j) G Q = ((j < 1000000 ∧ xs.length * j.toNat ≤ 10000000 ∧ -1000000 < j) ∧ Q (.lst (rep j.toNat xs)) G) := rfl
theorem e_mul_tup : oMul (.tup xs) (.int j) G Q = ((xs ≠ [] ∧ 2 ≤ j ∧ j ≤ 1000 ∧ xs.length ≤ 1000) ∧ Q (.tup (rep j.toNat xs)) G) := rfl
theorem e_lt_int : oLt (.int i) (.int j) G Q = Q (.bl (decide (i < j))) G := rfl
theorem e_le_int : oLe (.int i) (.int j) G Q = Q (.bl (decide (i ≤ j))) G := rfl
theorem e_gt_int : oGt (.int i) (.int j) G Q = Q (.bl (decide (j < i))) G := rfl
theorem e_ge_int : oGe (.int i) (.int j) G Q = Q (.bl (decide (j ≤ i))) G := rfl
theorem e_lt_str : oLt (.str a) (.str b) G Q = Q (.bl (decide (a < b))) G := rfl
theorem e_eq_int : oEq (.int i) (.int j) G Q = Q (.bl (decide (i = j))) G := rfl
theorem e_eq_str : oEq (.str a) (.str b) G Q = Q (.bl (decide (a = b))) G := rfl
theorem e_ne_int : oNe (.int i) (.int j) G Q = Q (.bl (!decide (i = j))) G := rfl
theorem e_ne_str : oNe (.str a) (.str b) G Q = Q (.bl (!decide (a = b))) G := rfl
theorem e_in : oIn x y G Q = oInB x y G fun b => Q (.bl b) G := rfl
theorem e_notin : oNotIn x y G Q = oInB x y G fun b => Q (.bl (!b)) G := rfl
theorem e_ix_str : oIx (.str a) (.int i) G Q = (a.length ≤ 10000000 ∧ ∃ c, atI a i = some c ∧ Q (.str [c]) G) := rfl
theorem e_ix_tup : oIx (.tup xs) (.int i) G Q = ∃ d, atI xs i = some d ∧ Q d G := rfl
theorem e_ix_lst : oIx (.lst xs) (.int i) G Q = ∃ d, atI xs i = some d ∧ Q d G := rfl
theorem e_ix_scr {ns : List Int} : oIx (.scr ns) (.int i) G Q = ∃ n, atI ns i = some n ∧ Q (.int n) G := rfl
theorem e_sl_str : oSl (.str a) lo hi G Q = (a.length ≤ 10000000 ∧ Q (.str (cutL a lo hi)) G) := rfl
theorem e_sl_tup : oSl (.tup xs) lo hi G Q = Q (.tup (cutL xs lo hi)) G := rfl
theorem e_sl_lst : oSl (.lst xs) lo hi G Q = Q (.lst (cutL xs lo hi)) G := rfl
theorem e_int_bl {b : Bool} : cInt [.bl b] G Q = Q (.int (if b then 1 else 0)) G := rfl
theorem e_int_int : cInt [.int i] G Q = Q (.int i) G := rfl
theorem e_max2 : cMax2 [.int i, .int j] G Q = Q (.int (if j > i then j else i)) G := by
  refine propext ⟨fun ⟨i', j', e, q⟩ => ?_, fun q => ⟨i, j, rfl, q⟩⟩
  cases e
  exact q
theorem e_min2 : cMin2 [.int i, .int j] G Q = Q (.int (if j < i then j else i)) G := by
  refine propext ⟨fun ⟨i', j', e, q⟩ => ?_, fun q => ⟨i, j, rfl, q⟩⟩
  cases e
  exact q
end
section
variable {G : Gp} {Q : DK} {p : Addr} {ds : List D} {kvs : List (DKey × D)} {i : Int} {d v : D}
theorem ix_ref (h : G p = some (.lst ds)) (e : atI ds i = some d) (q : Q d G) : oIx (.ref p) (.int i) G Q := by
  show match G p with
    | some (.dic kvs) => ∃ k d, keyOf (.int i) = some k ∧ dlook kvs k = some d ∧ Q d G
    | some (.lst ds) => ∃ d, atI ds i = some d ∧ Q d G
    | _ => False
  rw [h]
  exact ⟨d, e, q⟩
theorem set_ref {Q : Gp → Prop} {j : Nat} (h : G p = some (.lst ds)) (e : ixN ds.length i = some j) (q : Q (G.set p (.lst (ds.set j v)))) : oSet (.ref p) (.int i) v G Q := by
  show match G p with
    | some (.lst ds) => ∃ j, ixN ds.length i = some j ∧ Q (G.set p (.lst (ds.set j v)))
    | some (.dic kvs) => ∃ k, keyOf (.int i) = some k ∧ kvs.length < 10000000 ∧ Q (G.set p (.dic (dput kvs k v)))
    | _ => False
  rw [h]
  exact ⟨j, e, q⟩
theorem set_dic {Q : Gp → Prop} {x : D} {k : DKey} (h : G p = some (.dic kvs)) (e : keyOf x = some k) (hl : kvs.length < 10000000) (q : Q (G.set p (.dic (dput kvs k v)))) : oSet (.ref p) x v G Q := by
  simp only [oSet, h]
  exact ⟨k, e, hl, q⟩
theorem append_of (h : G p = some (.lst ds)) (hl : ds.length < 10000000) (q : Q .non (G.set p (.lst (ds ++ [v])))) : mAppend (.ref p) [v] G Q := ⟨p, ds, v, rfl, rfl, h, hl, q⟩
end
/-! ### a def's start -/
def nones : Nat → DSt
  | 0 => []
  | k + 1 => none :: nones k
def ini : List D → Nat → DSt
  | [], m => nones m
  | d :: r, m => some d :: ini r m
theorem nones_eq : ∀ m, nones m = List.replicate m none
  | 0 => rfl
  | m + 1 => by rw [List.replicate_succ, ← nones_eq m]; rfl
theorem ini_eq : ∀ (ds : List D) (m : Nat), ini ds m = ds.map some ++ List.replicate m none
  | [], m => by rw [List.map_nil, List.nil_append, ← nones_eq m]; rfl
  | d :: r, m => by rw [List.map_cons, List.cons_append, ← ini_eq r m]; rfl
theorem fn_run {n m : Nat} {body : DS} {ds : List D} {G : Gp} {ex : DX} {Q : DK} (h : ds.length = n) (q : body { nx := fun _ G' => Q .non G', rt := Q, ex := ex } (ini ds m) G) : fnD n m body ds G ex Q := by
  rw [ini_eq] at q
  exact ⟨h, q⟩
/-! ### for -/
theorem for_inv {g : DG} {tb : DS} {E : DEnds} (I : Nat → DSt → Gp → Prop) : ∀ {xs : List D} {i : Nat} {σ : DSt} {G : Gp}, I i σ G →
    (∀ j x σ G, xs[j]? = some x → I (i + j) σ G → ∀ N : DSt → Gp → Prop, (∀ σ2 G2 G3, Le G3 G2 → I (i + j + 1) σ2 G3 → N σ2 G2) → g x σ G E.ex fun σ1 G1 => tb { E with nx := N, ct := N, bk := E.nx } σ1 G1) →
    (∀ σ G, I (i + xs.length) σ G → E.nx σ G) → dForL g tb E xs σ G
  | [], i, σ, G, h0, _, hk => hk σ G h0
  | x :: xs, i, σ, G, h0, h, hk => by
    have := h 0 x σ G (by simp) h0 (fun σ2 G2 => ∃ G3, Le G3 G2 ∧ dForL g tb E xs σ2 G3) fun σ2 G2 G3 hle hI => ⟨G3, hle, for_inv I hI (fun j y σ' G' hy hi => by
      have z := h (j + 1) y σ' G' (by simpa using hy)
      rw [show i + (j + 1) = i + 0 + 1 + j by omega] at z
      exact z hi) fun σ' G' hI' => hk σ' G' (by rw [List.length_cons, show i + (xs.length + 1) = i + 0 + 1 + xs.length by omega]; exact hI')⟩
    exact this
theorem dlook_put {kvs : List (DKey × D)} {k j : DKey} {v : D} : dlook (dput kvs k v) j = if j = k then some v else dlook kvs j := by
  unfold dput
  by_cases c : dhas kvs k = true
  · rw [if_pos c]
    induction kvs with
    | nil => cases c
    | cons p kvs ih =>
      have hc : (decide (p.1 = k) || dhas kvs k) = true := c
      by_cases e : p.1 = j
      · have e1 : dlook (p :: kvs) j = some p.2 := by unfold dlook; rw [List.find?_cons_of_pos (by simpa using e)]; rfl
        rw [e1, List.map_cons]
        by_cases q : p.1 = k
        · rw [if_pos q, if_pos (by rw [← e, q])]
          unfold dlook
          rw [List.find?_cons_of_pos (by simpa using e)]
          rfl
        · rw [if_neg q, if_neg (fun z => q (by rw [e, z]))]
          unfold dlook
          rw [List.find?_cons_of_pos (by simpa using e)]
          rfl
      · have e1 : ∀ (d : D) l, dlook ((p.1, d) :: l) j = dlook l j := fun d l => by unfold dlook; rw [List.find?_cons_of_neg (by simpa using e)]
        have e2 : dlook (p :: kvs) j = dlook kvs j := e1 p.2 kvs
        rw [List.map_cons, e2]
        have e3 : ∀ l, dlook ((if p.1 = k then (p.1, v) else p) :: l) j = dlook l j := fun l => by
          by_cases q : p.1 = k
          · rw [if_pos q]; exact e1 v l
          · rw [if_neg q]; exact e1 p.2 l
        rw [e3]
        by_cases hk : dhas kvs k = true
        · exact ih hk
        · have hp : p.1 = k := by
            rw [Bool.or_eq_true] at hc
            rcases hc with hc | hc
            · exact of_decide_eq_true hc
            · exact absurd hc hk
          have e4 : kvs.map (fun p => if p.1 = k then (p.1, v) else p) = kvs := by
            rw [List.map_congr_left (g := id), List.map_id]
            intro q hq
            rw [if_neg fun z => hk (List.any_eq_true.mpr ⟨q, hq, by simpa using z⟩)]
            rfl
          rw [e4, if_neg (fun z => e (by rw [hp, z]))]
  · rw [if_neg c]
    have hn : dlook kvs k = none := by
      cases e : dlook kvs k with
      | none => rfl
      | some d => rw [dhas_look, e] at c; exact absurd rfl c
    unfold dlook
    rw [List.find?_append]
    by_cases e : j = k
    · subst e
      rw [if_pos rfl]
      have : kvs.find? (fun p => decide (p.1 = j)) = none := by
        cases z : kvs.find? (fun p => decide (p.1 = j)) with
        | none => rfl
        | some p => unfold dlook at hn; rw [z] at hn; cases hn
      rw [this]
      simp
    · rw [if_neg e]
      cases z : kvs.find? (fun p => decide (p.1 = j)) with
      | none => simp [Ne.symm e]
      | some p => rfl
end Y
/-! P1: how long repr's text is. -/
namespace Y
open PySem PySem.Spec PyProof.Rows L2
theorem app_len (a b : Str) : (a ++ b).length = a.length + b.length := by
  have e : a ++ b = ⟨a.cps ++ b.cps⟩ := rfl
  rw [e]
  show (a.cps ++ b.cps).size = _
  rw [Array.size_append]
  rfl
def wts : List Str → Nat
  | [] => 0
  | t :: ts => t.length + 2 + wts ts
theorem textFrom_le : ∀ (ts : List Str) (k : Nat) (acc : Str), (textFrom k acc ts).length ≤ acc.length + wts ts
  | [], k, acc => Nat.le_refl _
  | t :: ts, k, acc => by
    have ih := textFrom_le ts (k + 1) (acc ++ (if k > 0 then ", " else "" : String) ++ t)
    have e : textFrom k acc (t :: ts) = textFrom (k + 1) (acc ++ (if k > 0 then ", " else "" : String) ++ t) ts := rfl
    have h2 : (Str.ofString (if k > 0 then ", " else "" : String)).length ≤ 2 := by
      split
      · exact Nat.le_of_eq (by decide +kernel)
      · exact Nat.le_trans (Nat.le_of_eq (by decide +kernel)) (Nat.zero_le 2)
    rw [app_len, app_len] at ih
    rw [e]
    unfold wts
    omega
theorem listText_le (ts : List Str) : (listText ts).length ≤ wts ts + 2 := by
  unfold listText
  rw [app_len]
  have h := textFrom_le ts 0 "["
  have e1 : (Str.ofString "[").length = 1 := by decide +kernel
  have e2 : (Str.ofString "]").length = 1 := by decide +kernel
  omega
theorem join_le : ∀ ts : List Str, (Str.join ", " ts).length ≤ wts ts
  | [] => Nat.le_of_eq (by decide +kernel)
  | [t] => by
    show t.length ≤ t.length + 2 + 0
    omega
  | t :: u :: r => by
    have ih := join_le (u :: r)
    have e : Str.join ", " (t :: u :: r) = t ++ (", " : Str) ++ Str.join ", " (u :: r) := rfl
    rw [e, app_len, app_len]
    have e1 : (Str.ofString ", ").length = 2 := by decide +kernel
    show _ ≤ t.length + 2 + wts (u :: r)
    omega
theorem tupleText_le (ts : List Str) : (tupleText ts).length ≤ wts ts + 3 := by
  unfold tupleText
  rw [app_len, app_len]
  have h := join_le ts
  have e1 : (Str.ofString "(").length = 1 := by decide +kernel
  have e2 : (Str.ofString (if ts.length == 1 then ",)" else ")" : String)).length ≤ 2 := by
    split
    · exact Nat.le_of_eq (by decide +kernel)
    · exact Nat.le_trans (Nat.le_of_eq (by decide +kernel)) (by decide : 1 ≤ 2)
  omega
/-! ### rows of numbers, of rows .. -/
mutual
def okR : D → Bool
  | .non => true
  | .bl _ => true
  | .int i => decide (i.natAbs.log2 < 1920)
  | .tup ds => okRs ds
  | .lst ds => okRs ds
  | _ => false
def okRs : List D → Bool
  | [] => true
  | d :: ds => okR d && okRs ds
end
mutual
def wg : D → Nat
  | .non => 4
  | .bl _ => 5
  | .int _ => 1921
  | .tup ds => wgs ds + 3
  | .lst ds => wgs ds + 2
  | _ => 0
def wgs : List D → Nat
  | [] => 0
  | d :: ds => wg d + 2 + wgs ds
end
mutual
theorem shown_wg : ∀ {d : D}, okR d = true → (py d).shown.length ≤ wg d ∧ (py d).showable = true
  | .non, _ => ⟨Nat.le_of_eq (by decide +kernel), rfl⟩
  | .bl true, _ => ⟨Nat.le_trans (Nat.le_of_eq (by decide +kernel : (Str.ofString "True").length = 4)) (by decide : 4 ≤ 5), rfl⟩
  | .bl false, _ => ⟨Nat.le_of_eq (by decide +kernel : (Str.ofString "False").length = 5), rfl⟩
  | .int i, h => by
    have h' : i.natAbs.log2 < 1920 := by simpa [okR] using h
    exact ⟨int_text_len_1921 h', decide_eq_true h'⟩
  | .tup ds, h => by
    obtain ⟨a, b⟩ := shown_wgs (ds := ds) (by simpa [okR] using h)
    refine ⟨?_, b⟩
    have := tupleText_le (PyData.shownAll (pys ds))
    show (tupleText (PyData.shownAll (pys ds))).length ≤ wgs ds + 3
    omega
  | .lst ds, h => by
    obtain ⟨a, b⟩ := shown_wgs (ds := ds) (by simpa [okR] using h)
    refine ⟨?_, b⟩
    have := listText_le (PyData.shownAll (pys ds))
    show (listText (PyData.shownAll (pys ds))).length ≤ wgs ds + 2
    omega
  | .str _, h => by simp [okR] at h
  | .scr _, h => by simp [okR] at h
  | .ref _, h => by simp [okR] at h
  | .ty _, h => by simp [okR] at h
theorem shown_wgs : ∀ {ds : List D}, okRs ds = true → wts (PyData.shownAll (pys ds)) ≤ wgs ds ∧ PyData.showableAll (pys ds) = true
  | [], _ => ⟨Nat.le_refl _, rfl⟩
  | d :: ds, h => by
    have h' : okR d = true ∧ okRs ds = true := by simpa [okRs] using h
    obtain ⟨a, b⟩ := shown_wg h'.1
    obtain ⟨a2, b2⟩ := shown_wgs h'.2
    refine ⟨?_, ?_⟩
    · show (py d).shown.length + 2 + wts (PyData.shownAll (pys ds)) ≤ wg d + 2 + wgs ds
      omega
    · show ((py d).showable && PyData.showableAll (pys ds)) = true
      rw [b, b2]
      rfl
end
theorem okRs_ints {l : List Int} (h : ∀ i ∈ l, i.natAbs.log2 < 1920) : okRs (l.map D.int) = true := by
  induction l with
  | nil => rfl
  | cons x l ih =>
    show (okR (.int x) && okRs (l.map D.int)) = true
    rw [ih fun i hi => h i (List.mem_cons_of_mem _ hi)]
    simp [okR, h x List.mem_cons_self]
theorem wgs_ints : ∀ l : List Int, wgs (l.map D.int) = 1923 * l.length
  | [] => rfl
  | x :: l => by
    show 1921 + 2 + wgs (l.map D.int) = _
    rw [wgs_ints l, List.length_cons]
    omega
theorem log_small {n : Nat} (h : n < 2 ^ 1920) : n.log2 < 1920 := by
  by_cases z : n = 0
  · subst z; decide
  · exact (Nat.log2_lt z).mpr h
theorem log_int {i : Int} (h0 : 0 ≤ i) (h : i < 1000000000000) : i.natAbs.log2 < 1920 := log_small (by
  have : (1000000000000 : Nat) < 2 ^ 1920 := by decide +kernel
  omega)
/-- repr of such a row -/
theorem repr_ok {G : Gp} {Q : DK} {d : D} (h1 : isRow d = true) (h2 : sh 60 d = true) (h3 : okR d = true) (h4 : wg d ≤ 10000000) (hr : res G d = d) (q : Q (.str (py d).shown.cps.toList) G) : cRepr [d] G Q := by
  obtain ⟨a, b⟩ := shown_wg h3
  exact repr_of hr h1 h2 b (Nat.le_trans a h4) q
end Y
/-! M3: a loop that is read on: the model of Growing. -/
namespace Mw
open PySem PyProof.Rows L2 Y
abbrev Kv := List (DKey × D)
def inK (kvs : Kv) (w : List Nat) : Bool := (dlook kvs (.inr w)).isSome
def keyLen : DKey → Nat
  | .inl _ => 0
  | .inr w => w.length
def Bk (kvs : Kv) : Nat := (kvs.map fun p => keyLen p.1).sum
theorem le_sum {x : Nat} : ∀ {l : List Nat}, x ∈ l → x ≤ l.sum
  | [], h => absurd h List.not_mem_nil
  | y :: l, h => by
    rw [List.sum_cons]
    rcases List.mem_cons.mp h with e | e
    · omega
    · have := le_sum e
      omega
theorem inK_le {kvs : Kv} {w : List Nat} (h : inK kvs w = true) : w.length ≤ Bk kvs := by
  unfold inK at h
  rw [← dhas_look] at h
  unfold dhas at h
  obtain ⟨p, hp, e⟩ := List.any_eq_true.mp h
  have e1 : p.1 = .inr w := of_decide_eq_true e
  have e2 : keyLen p.1 ∈ kvs.map fun p => keyLen p.1 := List.mem_map_of_mem hp
  have e3 := le_sum e2
  rw [e1] at e3
  exact e3
/-- how many words of a place are known -/
def LA (b : List Nat) (kvs : Kv) (i : Nat) : Nat := lgF (inK kvs) b i (Bk kvs + 1) 0
theorem LA_ok (b : List Nat) (kvs : Kv) (i : Nat) : IsLg (inK kvs) b i (LA b kvs i) := IsLg.ex (fun _ h => inK_le h) b i
abbrev GSt := Kv × Nat
def stepG (b : List Nat) (s : GSt) : GSt := (dput s.1 (.inr (wd b s.2 (LA b s.1 s.2 + 1))) (.bl true), (s.2 + LA b s.1 s.2 + 1) % b.length)
def grownG (b : List Nat) (kvs : Kv) : Bool := (List.range b.length).all fun i => decide (b.length - 1 ≤ LA b kvs i)
def iterG (b : List Nat) : Nat → GSt → GSt
  | 0, s => s
  | n + 1, s => iterG b n (stepG b s)
theorem iterG_succ (b : List Nat) : ∀ (n : Nat) (s : GSt), iterG b (n + 1) s = stepG b (iterG b n s)
  | 0, s => rfl
  | n + 1, s => by rw [iterG, iterG_succ b n (stepG b s)]; rfl
theorem inK_put {kvs : Kv} {w v : List Nat} : inK (dput kvs (.inr w) (.bl true)) v = plus (inK kvs) w v := by
  unfold inK plus
  have e : ∀ k : DKey, dlook (dput kvs (.inr w) (.bl true)) k = if k = .inr w then some (.bl true) else dlook kvs k := fun k => dlook_put
  rw [e]
  by_cases q : v = w
  · subst q
    simp
  · rw [if_neg fun z => q (Sum.inr.inj z), decide_eq_false q, Bool.or_false]
theorem inK_put' {kvs : Kv} {w : List Nat} : inK (dput kvs (.inr w) (.bl true)) = plus (inK kvs) w := funext fun _ => inK_put
/-- what holds of such a state -/
structure GInv (b : List Nat) (s : GSt) (B : Nat) : Prop where
  prim : Prim b
  pos : 0 < b.length
  few : b.length ≤ 12
  pc : PC (inK s.1) b
  at_ : s.2 < b.length
  max : ∀ w, inK s.1 w = true → w.length ≤ B
theorem GInv.step {b : List Nat} {s : GSt} {B : Nat} (h : GInv b s B) : GInv b (stepG b s) (B + 1) := by
  refine ⟨h.prim, h.pos, h.few, ?_, Nat.mod_lt _ h.pos, fun w hw => ?_⟩
  · show PC (inK (dput s.1 _ _)) b
    rw [inK_put']
    exact step_pc h.pc (LA_ok b s.1 s.2)
  · have e : inK (dput s.1 (.inr (wd b s.2 (LA b s.1 s.2 + 1))) (.bl true)) w = true := hw
    rw [inK_put'] at e
    unfold plus at e
    rw [Bool.or_eq_true] at e
    rcases e with e | e
    · have := h.max w e
      omega
    · rw [of_decide_eq_true e, wd_len]
      have := (LA_ok b s.1 s.2).le h.max
      omega
def msG (b : List Nat) (s : GSt) : Nat := meas b.length (LA b s.1) s.2
theorem grownG_not {b : List Nat} {kvs : Kv} (h : grownG b kvs = false) : ∃ i, i < b.length ∧ LA b kvs i < b.length - 1 := by
  unfold grownG at h
  rw [List.all_eq_false] at h
  obtain ⟨i, hi, e⟩ := h
  refine ⟨i, List.mem_range.mp hi, ?_⟩
  have : ¬ b.length - 1 ≤ LA b kvs i := fun z => e (decide_eq_true z)
  omega
theorem LA_step {b : List Nat} {s : GSt} {B : Nat} (h : GInv b s B) (i : Nat) : LA b (stepG b s).1 i = if wd b i (LA b s.1 i + 1) = wd b s.2 (LA b s.1 s.2 + 1) then LA b s.1 i + 1 else LA b s.1 i := by
  have h1 := LA_ok b (stepG b s).1 i
  have h2 := step_lg h.pc (LA_ok b s.1 i) (LA_ok b s.1 s.2)
  have e : inK (stepG b s).1 = plus (inK s.1) (wd b s.2 (LA b s.1 s.2 + 1)) := inK_put'
  rw [e] at h1
  exact h1.uniq h2
theorem GInv.fall {b : List Nat} {s : GSt} {B : Nat} (h : GInv b s B) (hg : grownG b s.1 = false) : msG b (stepG b s) < msG b s := by
  unfold msG
  refine meas_step h.at_ (grownG_not hg) ?_ (fun i hi => ?_) fun hb i hi hne => ?_
  · rw [LA_step h, if_pos rfl]
  · rw [LA_step h]; split <;> omega
  · rw [LA_step h, if_neg fun e => hne (step_big h.prim hi h.at_ hb e)]
/-- it has grown behind so many words, and not ahead -/
structure FinG (b : List Nat) (s : GSt) (n : Nat) : Prop where
  yes : grownG b (iterG b n s).1 = true
  no : ∀ j, j < n → grownG b (iterG b j s).1 = false
theorem FinG.ex {b : List Nat} : ∀ (m : Nat) {s : GSt} {B : Nat}, GInv b s B → msG b s ≤ m → ∃ n, FinG b s n ∧ n ≤ m
  | m, s, B, h, hm => by
    cases hg : grownG b s.1 with
    | true => exact ⟨0, ⟨hg, fun j hj => absurd hj (Nat.not_lt_zero _)⟩, Nat.zero_le _⟩
    | false =>
      have hf := h.fall hg
      match m, hm with
      | 0, hm => omega
      | m + 1, hm =>
        obtain ⟨n, fin, hn⟩ := FinG.ex m h.step (by omega)
        refine ⟨n + 1, ⟨fin.yes, fun j hj => ?_⟩, by omega⟩
        cases j with
        | zero => exact hg
        | succ j => exact fin.no j (by omega)
theorem msG_le {b : List Nat} {s : GSt} {B : Nat} (h : GInv b s B) : msG b s ≤ 30000 := by
  have h1 := h.pos
  have h2 := h.few
  unfold msG meas
  have l1 : lack b.length (LA b s.1) ≤ 12 * 12 := by
    unfold lack
    have := sum_le_mul (f := fun i => b.length - 1 - LA b s.1 i) (c := 12) (List.range b.length) fun x _ => by omega
    rw [List.length_range] at this
    have : b.length * 12 ≤ 12 * 12 := Nat.mul_le_mul_right _ h2
    omega
  have l2 : b.length * b.length ≤ 12 * 12 := Nat.mul_le_mul h2 h2
  have l3 : lack b.length (LA b s.1) * (b.length * b.length + 2) ≤ (12 * 12) * (12 * 12 + 2) := Nat.mul_le_mul l1 (by omega)
  have l4 := way_le h1 (LA b s.1) (tgt b.length (LA b s.1))
  split <;> omega
theorem GInv.iter {b : List Nat} : ∀ (j : Nat) {s : GSt} {B : Nat}, GInv b s B → GInv b (iterG b j s) (B + j)
  | 0, s, B, h => h
  | j + 1, s, B, h => by
    have := GInv.iter j h.step
    rw [show B + 1 + j = B + (j + 1) by omega] at this
    exact this
theorem FinG.uniq {b : List Nat} {s : GSt} {n m : Nat} (h : FinG b s n) (h' : FinG b s m) : n = m := by
  rcases Nat.lt_trichotomy n m with q | q | q
  · have := h'.no n q
    rw [h.yes] at this
    cases this
  · exact q
  · have := h.no m q
    rw [h'.yes] at this
    cases this
theorem stepG_len {b : List Nat} {s : GSt} : (stepG b s).1.length ≤ s.1.length + 1 := dput_len _ _ _
theorem iterG_len {b : List Nat} : ∀ (j : Nat) (s : GSt), (iterG b j s).1.length ≤ s.1.length + j
  | 0, s => Nat.le_refl _
  | j + 1, s => by
    have h1 := iterG_len (b := b) j (stepG b s)
    have h2 := stepG_len (b := b) (s := s)
    show (iterG b j (stepG b s)).1.length ≤ _
    omega
end Mw
/-! the head, the readings, the walk of looplearn_k44_loops_till_grown, written by gen.py -/
namespace Wk
open PySem PySem.Spec PyProof.Rows L2 Y
def top (i : Nat) : Stmt := PySem.Challenge.pw_looplearn_k44_loops_till_grown.main.body.getD i (.Pass ⟨0, 0, 0, 0⟩)
def fn : List He.DefD := [
  ⟨("are_letters", none), "are_letters", "are_letters", defArgs (top 6), defBody (top 6), defScope (top 6), [], []⟩,
  ⟨("is_known", none), "is_known", "is_known", defArgs (top 7), defBody (top 7), defScope (top 7), [], []⟩,
  ⟨("need_known", none), "need_known", "need_known", defArgs (top 8), defBody (top 8), defScope (top 8), [], []⟩,
  ⟨("is_loop", none), "is_loop", "is_loop", defArgs (top 11), defBody (top 11), defScope (top 11), [], []⟩,
  ⟨("need_loop", none), "need_loop", "need_loop", defArgs (top 12), defBody (top 12), defScope (top 12), [], []⟩,
  ⟨("root_of", none), "root_of", "root_of", defArgs (top 13), defBody (top 13), defScope (top 13), [], []⟩,
  ⟨("longest_on", none), "longest_on", "longest_on", defArgs (top 15), defBody (top 15), defScope (top 15), [], []⟩,
  ⟨("spelled", none), "spelled", "spelled", defArgs (top 17), defBody (top 17), defScope (top 17), [], []⟩,
  ⟨("Growing", some "__init__"), "__init__", "Growing.__init__", defArgs (inClass (top 18) 0), defBody (inClass (top 18) 0), defScope (inClass (top 18) 0), [], []⟩,
  ⟨("Growing", some "all_lengths"), "all_lengths", "Growing.all_lengths", defArgs (inClass (top 18) 1), defBody (inClass (top 18) 1), defScope (inClass (top 18) 1), [], []⟩,
  ⟨("Growing", some "has_grown"), "has_grown", "Growing.has_grown", defArgs (inClass (top 18) 2), defBody (inClass (top 18) 2), defScope (inClass (top 18) 2), [], []⟩,
  ⟨("Growing", some "read_word"), "read_word", "Growing.read_word", defArgs (inClass (top 18) 3), defBody (inClass (top 18) 3), defScope (inClass (top 18) 3), [], []⟩,
  ⟨("Growing", some "read_on_till_grown"), "read_on_till_grown", "Growing.read_on_till_grown", defArgs (inClass (top 18) 4), defBody (inClass (top 18) 4), defScope (inClass (top 18) 4), [], []⟩,
  ⟨("need_both", none), "need_both", "need_both", defArgs (top 19), defBody (top 19), defScope (top 19), [], []⟩,
  ⟨("grown", none), "grown", "grown", defArgs (top 20), defBody (top 20), defScope (top 20), [], []⟩,
  ⟨("grown_by", none), "grown_by", "grown_by", defArgs (top 21), defBody (top 21), defScope (top 21), [], []⟩,
  ⟨("coder_then", none), "coder_then", "coder_then", defArgs (top 22), defBody (top 22), defScope (top 22), [], []⟩,
  ⟨("_law_pot", none), "_law_pot", "_law_pot", defArgs (top 24), defBody (top 24), defScope (top 24), [], []⟩,
  ⟨("_law_draw", none), "_law_draw", "_law_draw", defArgs (top 25), defBody (top 25), defScope (top 25), [], []⟩,
  ⟨("_law_loop", none), "_law_loop", "_law_loop", defArgs (top 26), defBody (top 26), defScope (top 26), [], []⟩,
  ⟨("_law_base", none), "_law_base", "_law_base", defArgs (top 27), defBody (top 27), defScope (top 27), [], []⟩,
  ⟨("_law_known", none), "_law_known", "_law_known", defArgs (top 28), defBody (top 28), defScope (top 28), [], []⟩,
  ⟨("_law_longest", none), "_law_longest", "_law_longest", defArgs (top 29), defBody (top 29), defScope (top 29), [], []⟩,
  ⟨("_law_right", none), "_law_right", "_law_right", defArgs (top 30), defBody (top 30), defScope (top 30), [], []⟩,
  ⟨("law", none), "law", "law", defArgs (top 31), defBody (top 31), defScope (top 31), [], []⟩]
def fa : List He.Fa := [
  .glo "LearnError",
  .glo "NoKnown",
  .glo "NoLoop",
  .glo "are_letters",
  .glo "is_known",
  .glo "need_known",
  .glo "is_loop",
  .glo "need_loop",
  .glo "root_of",
  .glo "longest_on",
  .glo "spelled",
  .glo "Growing",
  .cls "Growing",
  .mkr "Growing",
  .meth "Growing" "__init__",
  .noat "Growing" "base",
  .noat "Growing" "there",
  .noat "Growing" "spot",
  .noat "Growing" "new_words",
  .meth "Growing" "all_lengths",
  .meth "Growing" "has_grown",
  .meth "Growing" "read_word",
  .meth "Growing" "read_on_till_grown",
  .glo "need_both",
  .glo "grown",
  .glo "grown_by",
  .glo "coder_then",
  .glo "_law_pot",
  .glo "_law_draw",
  .glo "_law_loop",
  .glo "_law_base",
  .glo "_law_known",
  .glo "_law_longest",
  .glo "_law_right",
  .glo "law",
  .str "SMALL" "abcdefghijklmnopqrstuvwxyz",
  .int "MOST_PLACES" 12,
  .free "ValueError",
  .free "all",
  .free "dict",
  .free "int",
  .free "isinstance",
  .free "len",
  .free "max",
  .free "min",
  .free "range",
  .free "repr",
  .free "sorted",
  .free "str",
  .free "tuple",
  .free "zip"]
abbrev R : PySem.W.OpenRow := PySem.W.OpenLaw.row PySem.Challenge.rw_looplearn_k44_loops_till_grown
abbrev hk : PySem.W.Hook := hookY 5 fa fn
def ob (s : PySem.W.SharedT) : AlY := obsY 5 fa fn (HandSHeadRun.getT s)
theorem ob_eq (s : PySem.W.SharedT) : ob s = hk.obs s.abs := obsY_eq (HandSHeadRun.getT_eq s)
def loose : List PySem.Str := ["LearnError", "NoKnown", "NoLoop", "SMALL", "are_letters", "is_known", "need_known", "MOST_PLACES", "is_loop", "need_loop", "root_of", "longest_on", "spelled", "Growing", "need_both", "grown", "grown_by", "coder_then", "_law_pot", "_law_draw", "_law_loop", "_law_base", "_law_known", "_law_longest", "_law_right"]
/-! ### the readings -/
def r__law_draw (K : PySem.W.Frag) : DS := dSeq (dIfS (dTest (dOp oGt (dOp oIx (dVar 0) (dC (.int 0))) (dC (.int 0)))) (dSeq (dAsg (dOp oMod (dOp oIx (dVar 0) (dC (.int 0))) (dVar 1)) (gName' 2)) (dSeq (dAsg (dOp oDiv (dOp oIx (dVar 0) (dC (.int 0))) (dVar 1)) (gSub' (dVar 0) (dC (.int 0)))) (dSeq (dRet (dVar 2)) (dNext)))) (dNext)) (dSeq (dAsg (dOp oAdd (dOp oIx (dVar 0) (dC (.int 2))) (dC (.int 1))) (gSub' (dVar 0) (dC (.int 2)))) (dSeq (dAsg (dOp oMod (dOp oPow (dOp oAdd (dOp oIx (dVar 0) (dC (.int 1))) (dOp oMul (dC (.int 982451629)) (dOp oIx (dVar 0) (dC (.int 2))))) (dC (.int 3))) (dOp oAdd (dOp oPow (dC (.int 10)) (dC (.int 37))) (dC (.int 43)))) (gName' 3)) (dSeq (dAsg (dOp oMod (dOp oPow (dOp oAdd (dVar 3) (dOp oMul (dC (.int 15485917)) (dOp oIx (dVar 0) (dC (.int 2))))) (dC (.int 3))) (dOp oAdd (dOp oPow (dC (.int 10)) (dC (.int 36))) (dC (.int 67)))) (gName' 3)) (dSeq (dRet (dOp oMod (dOp oDiv (dVar 3) (dC (.int 1048573))) (dVar 1))) (dNext)))))
def sp__law_draw (K : PySem.W.Frag) : DSp := fnD 2 2 (r__law_draw K)
def r__law_known (K : PySem.W.Frag) : DS := dSeq (dAsg (dDicNew) (gName' 2)) (dSeq (dFor (dRng1 (dCall (sp__law_draw K) (dCons (dVar 0) (dCons (dC (.int 6)) (dNil))))) (gName' 3) (dSeq (dAsg (dCall (sp__law_draw K) (dCons (dVar 0) (dCons (dCB cLen (dCons (dVar 1) (dNil))) (dNil)))) (gName' 4)) (dSeq (dAsg (dOp oIx (dLst (dCons (dC (.int 3)) (dCons (dC (.int 12)) (dCons (dC (.int 40)) (dCons (dOp oIx (dLst (dCons (dC (.int 40)) (dCons (dC (.int 360)) (dNil)))) (dCB cInt (dCons (dOp oEq (dVar 3) (dC (.int 0))) (dNil)))) (dNil)))))) (dCall (sp__law_draw K) (dCons (dVar 0) (dCons (dC (.int 4)) (dNil))))) (gName' 5)) (dSeq (dAsg (dSl (dSl (dOp oMul (dVar 1) (dC (.int 400))) (dPart (dVar 4)) (dNoPart)) (dNoPart) (dPart (dOp oAdd (dC (.int 1)) (dCall (sp__law_draw K) (dCons (dVar 0) (dCons (dVar 5) (dNil))))))) (gName' 6)) (dSeq (dIfS (dTest (dOp oEq (dCall (sp__law_draw K) (dCons (dVar 0) (dCons (dC (.int 3)) (dNil)))) (dC (.int 0)))) (dSeq (dAsg (dOp oAdd (dSl (dVar 6) (dNoPart) (dPart (dOp oAdd (dC (.int 1)) (dCall (sp__law_draw K) (dCons (dVar 0) (dCons (dCB cLen (dCons (dVar 6) (dNil))) (dNil))))))) (dOp oIx (dC (.str [113, 122, 97, 98])) (dCall (sp__law_draw K) (dCons (dVar 0) (dCons (dC (.int 4)) (dNil)))))) (gName' 6)) (dNext)) (dNext)) (dSeq (dFor (dRng2 (dC (.int 1)) (dOp oAdd (dCB cMin2 (dCons (dCB cLen (dCons (dVar 6) (dNil))) (dCons (dOp oSub (dC (.int 360)) (dCB cLen (dCons (dVar 2) (dNil)))) (dNil)))) (dC (.int 1)))) (gName' 7) (dSeq (dAsg (dC (.bl true)) (gSub' (dVar 2) (dSl (dVar 6) (dNoPart) (dPart (dVar 7))))) (dNext))) (dNext))))))) (dSeq (dRet (dCB cTup (dCons (dCB cSort (dCons (dVar 2) (dNil))) (dNil)))) (dNext)))
def sp__law_known (K : PySem.W.Frag) : DSp := fnD 2 6 (r__law_known K)
def r__law_loop (K : PySem.W.Frag) : DS := dSeq (dAsg (dOp oAdd (dC (.int 1)) (dCall (sp__law_draw K) (dCons (dVar 0) (dCons (dOp oIx (dLst (dCons (dC (.int 4)) (dCons (dC (.int 12)) (dNil)))) (dCall (sp__law_draw K) (dCons (dVar 0) (dCons (dC (.int 2)) (dNil))))) (dNil))))) (gName' 1)) (dSeq (dAsg (dSl (dC (.str [97, 98, 99, 100, 101, 102, 103, 104, 105, 106, 107, 108, 109, 110, 111, 112, 113, 114, 115, 116, 117, 118, 119, 120, 121, 122])) (dNoPart) (dPart (dOp oIx (dLst (dCons (dC (.int 2)) (dCons (dC (.int 3)) (dCons (dC (.int 26)) (dNil))))) (dCall (sp__law_draw K) (dCons (dVar 0) (dCons (dC (.int 3)) (dNil))))))) (gName' 2)) (dSeq (dAsg (dBM "str" mJoin (dC (.str [])) (dCons (dComp (dRng1 (dVar 1)) (.one 4) (dYes) (dOp oIx (dVar 2) (dCall (sp__law_draw K) (dCons (dVar 0) (dCons (dCB cLen (dCons (dVar 2) (dNil))) (dNil))))) [4]) (dNil))) (gName' 3)) (dSeq (dIfS (dTest (dOp oEq (dCall (sp__law_draw K) (dCons (dVar 0) (dCons (dC (.int 4)) (dNil)))) (dC (.int 0)))) (dSeq (dAsg (dOp oMul (dSl (dVar 3) (dNoPart) (dPart (dC (.int 6)))) (dOp oIx (dLst (dCons (dC (.int 1)) (dCons (dC (.int 2)) (dNil)))) (dCB cInt (dCons (dOp oLt (dCB cLen (dCons (dVar 3) (dNil))) (dC (.int 7))) (dNil))))) (gName' 3)) (dNext)) (dNext)) (dSeq (dRet (dVar 3)) (dNext)))))
def sp__law_loop (K : PySem.W.Frag) : DSp := fnD 1 4 (r__law_loop K)
def r__law_pot (K : PySem.W.Frag) : DS := dSeq (dAsg (dC (.int 0)) (gName' 2)) (dSeq (dIfS (dTest (dOp oLt (dVar 1) (dCB cLen (dCons (dVar 0) (dNil))))) (dSeq (dAsg (dOp oIx (dVar 0) (dVar 1)) (gName' 2)) (dNext)) (dNext)) (dSeq (dRet (dLstM (dCons (dCB cMax2 (dCons (dC (.int 0)) (dCons (dOp oSub (dVar 2) (dOp oPow (dC (.int 10)) (dC (.int 18)))) (dNil)))) (dCons (dOp oAdd (dOp oAdd (dOp oMul (dOp oMod (dVar 2) (dOp oAdd (dOp oPow (dC (.int 10)) (dC (.int 34))) (dC (.int 193)))) (dC (.int 64))) (dVar 1)) (dC (.int 1))) (dCons (dC (.int 0)) (dNil)))))) (dNext)))
def sp__law_pot (K : PySem.W.Frag) : DSp := fnD 2 1 (r__law_pot K)
def r__law_base (K : PySem.W.Frag) : DS := dSeq (dAsg (dCB cLen (dCons (dVar 0) (dNil))) (gName' 1)) (dSeq (dFor (dRng2 (dC (.int 1)) (dVar 1)) (gName' 2) (dSeq (dIfS (dAnd (dTest (dOp oEq (dOp oMod (dVar 1) (dVar 2)) (dC (.int 0)))) (dTest (dOp oEq (dSl (dVar 0) (dPart (dVar 2)) (dNoPart)) (dSl (dVar 0) (dNoPart) (dPart (dOp oSub (dVar 1) (dVar 2))))))) (dSeq (dRet (dSl (dVar 0) (dNoPart) (dPart (dVar 2)))) (dNext)) (dNext)) (dNext))) (dSeq (dRet (dVar 0)) (dNext)))
def sp__law_base (K : PySem.W.Frag) : DSp := fnD 1 2 (r__law_base K)
def r__law_longest (K : PySem.W.Frag) : DS := dSeq (dAsg (dC (.int 0)) (gName' 3)) (dSeq (dAsg (dOp oIx (dVar 0) (dVar 2)) (gName' 4)) (dSeq (dWhile (dTest (dOp oIn (dVar 4) (dVar 1))) (dSeq (dAsg (dOp oAdd (dVar 3) (dC (.int 1))) (gName' 3)) (dSeq (dAsg (dOp oAdd (dVar 4) (dOp oIx (dVar 0) (dOp oMod (dOp oAdd (dVar 2) (dVar 3)) (dCB cLen (dCons (dVar 0) (dNil)))))) (gName' 4)) (dNext)))) (dSeq (dRet (dVar 3)) (dNext))))
def sp__law_longest (K : PySem.W.Frag) : DSp := fnD 3 2 (r__law_longest K)
def r_longest_on (K : PySem.W.Frag) : DS := dSeq (dAsg (dOp oIx (dVar 0) (dVar 2)) (gName' 3)) (dSeq (dWhile (dTest (dOp oIn (dVar 3) (dVar 1))) (dSeq (dAug 3 (dOp oIx (dVar 0) (dOp oMod (dOp oAdd (dVar 2) (dCB cLen (dCons (dVar 3) (dNil)))) (dCB cLen (dCons (dVar 0) (dNil))))) oIAdd) (dNext))) (dSeq (dRet (dOp oSub (dCB cLen (dCons (dVar 3) (dNil))) (dC (.int 1)))) (dNext)))
def sp_longest_on (K : PySem.W.Frag) : DSp := fnD 3 1 (r_longest_on K)
def r_Growing_all_lengths (K : PySem.W.Frag) : DS := dSeq (dRet (dCB cTup (dCons (dComp (dRng1 (dCB cLen (dCons (dFld (He.ga K "Growing") "base" (dVar 0)) (dNil)))) (.one 1) (dYes) (dCall (sp_longest_on K) (dCons (dFld (He.ga K "Growing") "base" (dVar 0)) (dCons (dFld (He.ga K "Growing") "there" (dVar 0)) (dCons (dVar 1) (dNil))))) [1]) (dNil)))) (dNext)
def sp_Growing_all_lengths (K : PySem.W.Frag) : DSp := fnD 1 1 (r_Growing_all_lengths K)
def r_root_of (K : PySem.W.Frag) : DS := dSeq (dAsg (dCB cLen (dCons (dVar 0) (dNil))) (gName' 1)) (dSeq (dRet (dOp oIx (dComp (dRng2 (dC (.int 1)) (dOp oAdd (dVar 1) (dC (.int 1)))) (.one 2) (dTest (dOp oEq (dVar 0) (dOp oMul (dSl (dVar 0) (dNoPart) (dPart (dVar 2))) (dOp oDiv (dVar 1) (dVar 2))))) (dSl (dVar 0) (dNoPart) (dPart (dVar 2))) [2]) (dC (.int 0)))) (dNext))
def sp_root_of (K : PySem.W.Frag) : DSp := fnD 1 2 (r_root_of K)
def r_Growing___init__ (K : PySem.W.Frag) : DS := dSeq (dFldS (He.ga K "Growing") "base" (dVar 0) (dCall (sp_root_of K) (dCons (dVar 1) (dNil)))) (dSeq (dFldS (He.ga K "Growing") "there" (dVar 0) (dCompD (dRow (dVar 2)) (.one 3) (dYes) (dVar 3) (dC (.bl true)) [3])) (dSeq (dFldS (He.ga K "Growing") "spot" (dVar 0) (dC (.int 0))) (dSeq (dFldS (He.ga K "Growing") "new_words" (dVar 0) (dLstM (dNil))) (dNext))))
def sp_Growing___init__ (K : PySem.W.Frag) : DSp := fnD 3 1 (r_Growing___init__ K)
def r_Growing_has_grown (K : PySem.W.Frag) : DS := dSeq (dRet (dOp oGe (dCB cMin1 (dCons (dMeth (He.ga K "Growing") "all_lengths" (sp_Growing_all_lengths K) (dVar 0) (dNil)) (dNil))) (dOp oSub (dCB cLen (dCons (dFld (He.ga K "Growing") "base" (dVar 0)) (dNil))) (dC (.int 1))))) (dNext)
def sp_Growing_has_grown (K : PySem.W.Frag) : DSp := fnD 1 0 (r_Growing_has_grown K)
def r_spelled (K : PySem.W.Frag) : DS := dSeq (dRet (dSl (dOp oMul (dVar 0) (dOp oAdd (dOp oDiv (dVar 2) (dCB cLen (dCons (dVar 0) (dNil)))) (dC (.int 2)))) (dPart (dVar 1)) (dPart (dOp oAdd (dVar 1) (dVar 2))))) (dNext)
def sp_spelled (K : PySem.W.Frag) : DSp := fnD 3 0 (r_spelled K)
def r_Growing_read_word (K : PySem.W.Frag) : DS := dSeq (dAsg (dOp oAdd (dCall (sp_longest_on K) (dCons (dFld (He.ga K "Growing") "base" (dVar 0)) (dCons (dFld (He.ga K "Growing") "there" (dVar 0)) (dCons (dFld (He.ga K "Growing") "spot" (dVar 0)) (dNil))))) (dC (.int 1))) (gName' 1)) (dSeq (dAsg (dC (.bl true)) (gSub' (dFld (He.ga K "Growing") "there" (dVar 0)) (dCall (sp_spelled K) (dCons (dFld (He.ga K "Growing") "base" (dVar 0)) (dCons (dFld (He.ga K "Growing") "spot" (dVar 0)) (dCons (dVar 1) (dNil))))))) (dSeq (dDrop (dBM "list" mAppend (dFld (He.ga K "Growing") "new_words" (dVar 0)) (dCons (dTup (dCons (dFld (He.ga K "Growing") "spot" (dVar 0)) (dCons (dVar 1) (dNil)))) (dNil)))) (dSeq (dFldS (He.ga K "Growing") "spot" (dVar 0) (dOp oMod (dOp oAdd (dFld (He.ga K "Growing") "spot" (dVar 0)) (dVar 1)) (dCB cLen (dCons (dFld (He.ga K "Growing") "base" (dVar 0)) (dNil))))) (dNext))))
def sp_Growing_read_word (K : PySem.W.Frag) : DSp := fnD 1 1 (r_Growing_read_word K)
def r_Growing_read_on_till_grown (K : PySem.W.Frag) : DS := dSeq (dWhile (dNot (dTest (dMeth (He.ga K "Growing") "has_grown" (sp_Growing_has_grown K) (dVar 0) (dNil)))) (dSeq (dDrop (dMeth (He.ga K "Growing") "read_word" (sp_Growing_read_word K) (dVar 0) (dNil))) (dNext))) (dNext)
def sp_Growing_read_on_till_grown (K : PySem.W.Frag) : DSp := fnD 1 0 (r_Growing_read_on_till_grown K)
def r_are_letters (K : PySem.W.Frag) : DS := dSeq (dRet (dAndV (dCB cIsi (dCons (dVar 0) (dCons (dC (.ty "str")) (dNil)))) (dCB cAll (dCons (dComp (dRow (dVar 0)) (.one 1) (dYes) (dOp oIn (dVar 1) (dC (.str [97, 98, 99, 100, 101, 102, 103, 104, 105, 106, 107, 108, 109, 110, 111, 112, 113, 114, 115, 116, 117, 118, 119, 120, 121, 122]))) [1]) (dNil))))) (dNext)
def sp_are_letters (K : PySem.W.Frag) : DSp := fnD 1 1 (r_are_letters K)
def r_is_known (K : PySem.W.Frag) : DS := dSeq (dIfS (dOr (dNot (dTest (dCB cIsi (dCons (dVar 0) (dCons (dC (.ty "tuple")) (dNil)))))) (dNot (dTest (dCB cAll (dCons (dComp (dRow (dVar 0)) (.one 2) (dYes) (dAndV (dCall (sp_are_letters K) (dCons (dVar 2) (dNil))) (dOp oNe (dVar 2) (dC (.str [])))) [2]) (dNil)))))) (dSeq (dRet (dC (.bl false))) (dNext)) (dNext)) (dSeq (dIfS (dNot (dTest (dCB cAll (dCons (dComp (dZip (dVar 0) (dSl (dVar 0) (dPart (dC (.int 1))) (dNoPart))) (.tup [3, 4]) (dYes) (dOp oLt (dVar 3) (dVar 4)) [3, 4]) (dNil))))) (dSeq (dRet (dC (.bl false))) (dNext)) (dNext)) (dSeq (dAsg (dCompD (dRow (dVar 0)) (.one 2) (dYes) (dVar 2) (dC (.bl true)) [2]) (gName' 1)) (dSeq (dRet (dCB cAll (dCons (dComp (dRow (dVar 0)) (.one 2) (dYes) (dOrV (dOp oEq (dCB cLen (dCons (dVar 2) (dNil))) (dC (.int 1))) (dOp oIn (dSl (dVar 2) (dNoPart) (dPart (dUn oNeg (dC (.int 1))))) (dVar 1))) [2]) (dNil)))) (dNext))))
def sp_is_known (K : PySem.W.Frag) : DSp := fnD 1 4 (r_is_known K)
def r_need_known (K : PySem.W.Frag) : DS := dSeq (dIfS (dNot (dTest (dCall (sp_is_known K) (dCons (dVar 0) (dNil))))) (dSeq (dNever) (dNext)) (dNext)) (dNext)
def sp_need_known (K : PySem.W.Frag) : DSp := fnD 1 0 (r_need_known K)
def r_is_loop (K : PySem.W.Frag) : DS := dSeq (dRet (dAndV (dCall (sp_are_letters K) (dCons (dVar 0) (dNil))) (dChain oLe oLe (dC (.int 1)) (dCB cLen (dCons (dVar 0) (dNil))) (dC (.int (12)))))) (dNext)
def sp_is_loop (K : PySem.W.Frag) : DSp := fnD 1 0 (r_is_loop K)
def r_need_loop (K : PySem.W.Frag) : DS := dSeq (dIfS (dNot (dTest (dCall (sp_is_loop K) (dCons (dVar 0) (dNil))))) (dSeq (dNever) (dNext)) (dNext)) (dNext)
def sp_need_loop (K : PySem.W.Frag) : DSp := fnD 1 0 (r_need_loop K)
def r_need_both (K : PySem.W.Frag) : DS := dSeq (dDrop (dCall (sp_need_loop K) (dCons (dVar 0) (dNil)))) (dSeq (dDrop (dCall (sp_need_known K) (dCons (dVar 1) (dNil)))) (dNext))
def sp_need_both (K : PySem.W.Frag) : DSp := fnD 2 0 (r_need_both K)
def r_grown (K : PySem.W.Frag) : DS := dSeq (dDrop (dCall (sp_need_both K) (dCons (dVar 0) (dCons (dVar 1) (dNil))))) (dSeq (dAsg (dMake (He.ga K "Growing") (sp_Growing___init__ K) (dCons (dVar 0) (dCons (dVar 1) (dNil)))) (gName' 2)) (dSeq (dDrop (dMeth (He.ga K "Growing") "read_on_till_grown" (sp_Growing_read_on_till_grown K) (dVar 2) (dNil))) (dSeq (dRet (dVar 2)) (dNext))))
def sp_grown (K : PySem.W.Frag) : DSp := fnD 2 1 (r_grown K)
def r_coder_then (K : PySem.W.Frag) : DS := dSeq (dAsg (dCall (sp_grown K) (dCons (dVar 0) (dCons (dVar 1) (dNil)))) (gName' 2)) (dSeq (dRet (dTup (dCons (dFld (He.ga K "Growing") "spot" (dVar 2)) (dCons (dMeth (He.ga K "Growing") "all_lengths" (sp_Growing_all_lengths K) (dVar 2) (dNil)) (dNil))))) (dNext))
def sp_coder_then (K : PySem.W.Frag) : DSp := fnD 2 1 (r_coder_then K)
def r_grown_by (K : PySem.W.Frag) : DS := dSeq (dRet (dCB cLen (dCons (dFld (He.ga K "Growing") "new_words" (dCall (sp_grown K) (dCons (dVar 0) (dCons (dVar 1) (dNil))))) (dNil)))) (dNext)
def sp_grown_by (K : PySem.W.Frag) : DSp := fnD 2 0 (r_grown_by K)
def r__law_right (K : PySem.W.Frag) : DS := dSeq (dAsg (dCall (sp__law_base K) (dCons (dVar 0) (dNil))) (gName' 2)) (dSeq (dAsg (dCB cLen (dCons (dVar 2) (dNil))) (gName' 3)) (dSeq (dAsg (dC .non) (gName' 4)) (dSeq (dAsg (dTup (dCons (dLstM (dNil)) (dCons (dCB cDictP (dCons (dComp (dRow (dVar 1)) (.one 10) (dYes) (dTup (dCons (dVar 10) (dCons (dC (.bl true)) (dNil)))) [10]) (dNil))) (dNil)))) (gTup' [5, 6])) (dSeq (dAsg (dC (.int 0)) (gName' 7)) (dSeq (dWhile (dTest (dOp oIs (dVar 4) (dC .non))) (dSeq (dAsg (dComp (dRng1 (dVar 3)) (.one 11) (dYes) (dCall (sp__law_longest K) (dCons (dVar 2) (dCons (dVar 6) (dCons (dVar 11) (dNil))))) [11]) (gName' 8)) (dSeq (dIfS (dTest (dOp oGe (dCB cMin1 (dCons (dVar 8) (dNil))) (dOp oSub (dVar 3) (dC (.int 1))))) (dSeq (dAsg (dTup (dCons (dVar 7) (dCons (dCB cTup (dCons (dVar 8) (dNil))) (dNil)))) (gName' 4)) (dNext)) (dSeq (dAsg (dOp oAdd (dOp oIx (dVar 8) (dVar 7)) (dC (.int 1))) (gName' 9)) (dSeq (dAsg (dSl (dOp oMul (dVar 2) (dOp oAdd (dOp oDiv (dVar 9) (dVar 3)) (dC (.int 2)))) (dPart (dVar 7)) (dPart (dOp oAdd (dVar 7) (dVar 9)))) (gName' 10)) (dSeq (dAsg (dC (.bl true)) (gSub' (dVar 6) (dVar 10))) (dSeq (dDrop (dBM "list" mAppend (dVar 5) (dCons (dVar 10) (dNil)))) (dSeq (dAsg (dOp oMod (dOp oAdd (dVar 7) (dVar 9)) (dVar 3)) (gName' 7)) (dNext))))))) (dNext)))) (dSeq (dRet (dOp oEq (dCB cRepr (dCons (dLst (dCons (dCall (sp_grown_by K) (dCons (dVar 0) (dCons (dVar 1) (dNil)))) (dCons (dCall (sp_coder_then K) (dCons (dVar 0) (dCons (dVar 1) (dNil)))) (dNil)))) (dNil))) (dCB cRepr (dCons (dLst (dCons (dCB cLen (dCons (dVar 5) (dNil))) (dCons (dVar 4) (dNil)))) (dNil))))) (dNext)))))))
def sp__law_right (K : PySem.W.Frag) : DSp := fnD 2 10 (r__law_right K)
def r_law (K : PySem.W.Frag) : DS := dSeq (dFor (dRng1 (dCB cMax2 (dCons (dC (.int 1)) (dCons (dCB cMin2 (dCons (dC (.int 4)) (dCons (dCB cLen (dCons (dVar 0) (dNil))) (dNil)))) (dNil))))) (gName' 1) (dSeq (dAsg (dCall (sp__law_pot K) (dCons (dVar 0) (dCons (dVar 1) (dNil)))) (gName' 2)) (dSeq (dFor (dRng1 (dC (.int 3))) (gName' 3) (dSeq (dAsg (dCall (sp__law_loop K) (dCons (dVar 2) (dNil))) (gName' 4)) (dSeq (dIfS (dNot (dTest (dCall (sp__law_right K) (dCons (dVar 4) (dCons (dCall (sp__law_known K) (dCons (dVar 2) (dCons (dVar 4) (dNil)))) (dNil)))))) (dSeq (dRet (dC (.bl false))) (dNext)) (dNext)) (dNext)))) (dNext)))) (dSeq (dRet (dAndV (dCall (sp__law_right K) (dCons (dOp oAdd (dOp oMul (dC (.str [97])) (dC (.int 11))) (dC (.str [98]))) (dCons (dTup (dNil)) (dNil)))) (dCall (sp__law_right K) (dCons (dC (.str [97, 98, 97, 98, 97, 98, 97, 98, 97, 98, 97, 99])) (dCons (dTup (dCons (dC (.str [98])) (dNil))) (dNil)))))) (dNext))
def sp_law (K : PySem.W.Frag) : DSp := fnD 1 4 (r_law K)
/-! ### the walk -/
section
variable {P : Program} {w : World} {K : PySem.W.Frag} {h : Heap} {mg : Str → Option Value}
theorem sc__law_draw : FnScope ["pot", "many", "found", "mixed"] ["pot", "many"] (defScope (top 25)) := ⟨rfl, rfl, rfl, by decide +kernel, rfl, by decide +kernel, by decide +kernel⟩
theorem fn__law_draw (XK : K.In h) (GN : h.Ns mainGlobals mg) (D : He.SaysD fa fn K) : ∃ fd, (∀ base : Heap, FnY P w K mg base 1 (He.fAd K ("_law_draw", none)) fd ["pot", "many"] (spOf (sp__law_draw K))) ∧ PySem.W.keepIn K (.ref (He.fAd K ("_law_draw", none))) = true ∧ Binds K fd ["pot", "many"] [] ∧ ∀ (s : Shared) (us : List Value), us.length = 2 → BindsTo s fd ⟨us, []⟩ ((["pot", "many"] : List PySem.Str).zip us) := by
  obtain ⟨fd, F0⟩ := D.def_ 18 rfl
  have F : FunD K "_law_draw" "_law_draw" (defArgs (top 25)) (defBody (top 25)) (defScope (top 25)) [] [] (He.fAd K ("_law_draw", none)) fd := F0
  refine ⟨fd, fun base => ?_, F.kp, F.bindsN fun _ _ _ _ _ _ us hl => match us, hl with | [_, _], _ => rfl, fun s us hl => F.bindsA (fun _ _ _ _ _ _ us hl => match us, hl with | [_, _], _ => rfl) s us hl⟩
  refine yfn F sc__law_draw rfl rfl fun cdv A outer s H E hr c tk hp => ?_
  exact (mss_cons (ms_if (ytcmp opGt (yix c (yv 0) (me_int)) (me_int)) (mss_cons (yset c (me_op opMod (yix c (yv 0) (me_int)) (yv 1))) (mss_cons (yasg (me_op opDiv (yix c (yv 0) (me_int)) (yv 1)) (ysub c (yv 0) (me_int))) (mss_cons (ms_ret (yv 2)) (mss_nil)))) (mss_nil)) (mss_cons (yasg (me_op opAdd (yix c (yv 0) (me_int)) (me_int)) (ysub c (yv 0) (me_int))) (mss_cons (yset c (me_op opMod (me_op opPow (me_op opAdd (yix c (yv 0) (me_int)) (me_op opMul (me_int) (yix c (yv 0) (me_int)))) (me_int)) (me_op opAdd (me_op opPow (me_int) (me_int)) (me_int)))) (mss_cons (yset c (me_op opMod (me_op opPow (me_op opAdd (yv 3) (me_op opMul (me_int) (yix c (yv 0) (me_int)))) (me_int)) (me_op opAdd (me_op opPow (me_int) (me_int)) (me_int)))) (mss_cons (ms_ret (me_op opMod (me_op opDiv (yv 3) (me_int)) (yv 1))) (mss_nil))))))
theorem ok__law_draw (XK : K.In h) (GN : h.Ns mainGlobals mg) (D : He.SaysD fa fn K) (base : Heap) : Cal P w K mg base 1 "_law_draw" (sp__law_draw K) := by
  obtain ⟨fd, h1, h2, h3, _⟩ := fn__law_draw (P := P) (w := w) XK GN D
  exact ⟨_, fd, _, h1 base, He.glo_ok XK GN (D.fact 28 rfl), h2, h3⟩
theorem sc__law_known : FnScope ["pot", "loop", "found", "turn", "place", "most", "word", "size"] ["pot", "loop"] (defScope (top 28)) := ⟨rfl, rfl, rfl, by decide +kernel, rfl, by decide +kernel, by decide +kernel⟩
theorem fn__law_known (XK : K.In h) (GN : h.Ns mainGlobals mg) (D : He.SaysD fa fn K) : ∃ fd, (∀ base : Heap, FnY P w K mg base 2 (He.fAd K ("_law_known", none)) fd ["pot", "loop"] (spOf (sp__law_known K))) ∧ PySem.W.keepIn K (.ref (He.fAd K ("_law_known", none))) = true ∧ Binds K fd ["pot", "loop"] [] ∧ ∀ (s : Shared) (us : List Value), us.length = 2 → BindsTo s fd ⟨us, []⟩ ((["pot", "loop"] : List PySem.Str).zip us) := by
  obtain ⟨fd, F0⟩ := D.def_ 21 rfl
  have F : FunD K "_law_known" "_law_known" (defArgs (top 28)) (defBody (top 28)) (defScope (top 28)) [] [] (He.fAd K ("_law_known", none)) fd := F0
  refine ⟨fd, fun base => ?_, F.kp, F.bindsN fun _ _ _ _ _ _ us hl => match us, hl with | [_, _], _ => rfl, fun s us hl => F.bindsA (fun _ _ _ _ _ _ us hl => match us, hl with | [_, _], _ => rfl) s us hl⟩
  have H_free_range := He.free_ok XK GN (D.fact 45 rfl)
  have H_cal__law_draw := ok__law_draw XK GN D base (P := P) (w := w)
  have H_free_len := He.free_ok XK GN (D.fact 42 rfl)
  have H_free_int := He.free_ok XK GN (D.fact 40 rfl)
  have H_free_min := He.free_ok XK GN (D.fact 44 rfl)
  have H_free_sorted := He.free_ok XK GN (D.fact 47 rfl)
  have H_free_tuple := He.free_ok XK GN (D.fact 49 rfl)
  refine yfn F sc__law_known rfl rfl fun cdv A outer s H E hr c tk hp => ?_
  exact (mss_cons (yset c (ydic)) (mss_cons (yfor hp c (yrg1 H_free_range (ycall H_cal__law_draw hr tk (ycons (yv 0) (ycons (me_int) (ma_nil))))) (ytg1 c) (mss_cons (yset c (ycall H_cal__law_draw hr tk (ycons (yv 0) (ycons (ycb cd_len H_free_len (ycons (yv 1) (ma_nil))) (ma_nil))))) (mss_cons (yset c (yix c (me_lst (ycons (me_int) (ycons (me_int) (ycons (me_int) (ycons (yix c (me_lst (ycons (me_int) (ycons (me_int) (ma_nil)))) (yct cd_int H_free_int (ycons (ycmp (opEq c.hu) (yv 3) (me_int)) (ma_nil)))) (ma_nil)))))) (ycall H_cal__law_draw hr tk (ycons (yv 0) (ycons (me_int) (ma_nil)))))) (mss_cons (yset c (me_sl (me_sl (me_op opMul (yv 1) (me_int)) (mo_some (yv 4)) (mo_none)) (mo_none) (mo_some (me_op opAdd (me_int) (ycall H_cal__law_draw hr tk (ycons (yv 0) (ycons (yv 5) (ma_nil)))))))) (mss_cons (ms_if (ytcmp (opEq c.hu) (ycall H_cal__law_draw hr tk (ycons (yv 0) (ycons (me_int) (ma_nil)))) (me_int)) (mss_cons (yset c (me_op opAdd (me_sl (yv 6) (mo_none) (mo_some (me_op opAdd (me_int) (ycall H_cal__law_draw hr tk (ycons (yv 0) (ycons (ycb cd_len H_free_len (ycons (yv 6) (ma_nil))) (ma_nil))))))) (yix c (ystr) (ycall H_cal__law_draw hr tk (ycons (yv 0) (ycons (me_int) (ma_nil))))))) (mss_nil)) (mss_nil)) (mss_cons (yfor hp c (yrg2 H_free_range (me_int) (me_op opAdd (ycb (cd_min2 c.calm) H_free_min (ycons (ycb cd_len H_free_len (ycons (yv 6) (ma_nil))) (ycons (me_op opSub (me_int) (ycb cd_len H_free_len (ycons (yv 2) (ma_nil)))) (ma_nil)))) (me_int))) (ytg1 c) (mss_cons (yasg (me_bl) (ysub c (yv 2) (me_sl (yv 6) (mo_none) (mo_some (yv 7))))) (mss_nil))) (mss_nil))))))) (mss_cons (ms_ret (yct cd_tup H_free_tuple (ycons (ycb (cd_sort c.calm) H_free_sorted (ycons (yv 2) (ma_nil))) (ma_nil)))) (mss_nil))))
theorem ok__law_known (XK : K.In h) (GN : h.Ns mainGlobals mg) (D : He.SaysD fa fn K) (base : Heap) : Cal P w K mg base 2 "_law_known" (sp__law_known K) := by
  obtain ⟨fd, h1, h2, h3, _⟩ := fn__law_known (P := P) (w := w) XK GN D
  exact ⟨_, fd, _, h1 base, He.glo_ok XK GN (D.fact 31 rfl), h2, h3⟩
theorem sc__law_loop : FnScope ["pot", "many", "letters", "loop", "k"] ["pot"] (defScope (top 26)) := ⟨rfl, rfl, rfl, by decide +kernel, rfl, by decide +kernel, by decide +kernel⟩
theorem fn__law_loop (XK : K.In h) (GN : h.Ns mainGlobals mg) (D : He.SaysD fa fn K) : ∃ fd, (∀ base : Heap, FnY P w K mg base 2 (He.fAd K ("_law_loop", none)) fd ["pot"] (spOf (sp__law_loop K))) ∧ PySem.W.keepIn K (.ref (He.fAd K ("_law_loop", none))) = true ∧ Binds K fd ["pot"] [] ∧ ∀ (s : Shared) (us : List Value), us.length = 1 → BindsTo s fd ⟨us, []⟩ ((["pot"] : List PySem.Str).zip us) := by
  obtain ⟨fd, F0⟩ := D.def_ 19 rfl
  have F : FunD K "_law_loop" "_law_loop" (defArgs (top 26)) (defBody (top 26)) (defScope (top 26)) [] [] (He.fAd K ("_law_loop", none)) fd := F0
  refine ⟨fd, fun base => ?_, F.kp, F.bindsN fun _ _ _ _ _ _ us hl => match us, hl with | [_], _ => rfl, fun s us hl => F.bindsA (fun _ _ _ _ _ _ us hl => match us, hl with | [_], _ => rfl) s us hl⟩
  have H_cal__law_draw := ok__law_draw XK GN D base (P := P) (w := w)
  have H_free_range := He.free_ok XK GN (D.fact 45 rfl)
  have H_free_len := He.free_ok XK GN (D.fact 42 rfl)
  have H_free_int := He.free_ok XK GN (D.fact 40 rfl)
  refine yfn F sc__law_loop rfl rfl fun cdv A outer s H E hr c tk hp => ?_
  exact (mss_cons (yset c (me_op opAdd (me_int) (ycall H_cal__law_draw hr tk (ycons (yv 0) (ycons (yix c (me_lst (ycons (me_int) (ycons (me_int) (ma_nil)))) (ycall H_cal__law_draw hr tk (ycons (yv 0) (ycons (me_int) (ma_nil))))) (ma_nil)))))) (mss_cons (yset c (me_sl (ystr) (mo_none) (mo_some (yix c (me_lst (ycons (me_int) (ycons (me_int) (ycons (me_int) (ma_nil))))) (ycall H_cal__law_draw hr tk (ycons (yv 0) (ycons (me_int) (ma_nil)))))))) (mss_cons (yset c (ybm PySem.F.plainAttrs_str PySem.F.slot_str_join PySem.F.type_str_join mtd_join (ystr) (ycons (ylc (own := [("k", 4)]) c (yrg1 H_free_range (yv 1)) (fun _ _ _ _ _ => ypg1 c.blk) (fun _ _ _ _ _ => mts_nil) (fun _ _ _ _ _ => yix c.blk (yv 2) (ycall H_cal__law_draw hr takes0 (ycons (yv 0) (ycons (ycb cd_len H_free_len (ycons (yv 2) (ma_nil))) (ma_nil)))))) (ma_nil)))) (mss_cons (ms_if (ytcmp (opEq c.hu) (ycall H_cal__law_draw hr tk (ycons (yv 0) (ycons (me_int) (ma_nil)))) (me_int)) (mss_cons (yset c (me_op opMul (me_sl (yv 3) (mo_none) (mo_some (me_int))) (yix c (me_lst (ycons (me_int) (ycons (me_int) (ma_nil)))) (yct cd_int H_free_int (ycons (ycmp opLt (ycb cd_len H_free_len (ycons (yv 3) (ma_nil))) (me_int)) (ma_nil)))))) (mss_nil)) (mss_nil)) (mss_cons (ms_ret (yv 3)) (mss_nil))))))
theorem ok__law_loop (XK : K.In h) (GN : h.Ns mainGlobals mg) (D : He.SaysD fa fn K) (base : Heap) : Cal P w K mg base 2 "_law_loop" (sp__law_loop K) := by
  obtain ⟨fd, h1, h2, h3, _⟩ := fn__law_loop (P := P) (w := w) XK GN D
  exact ⟨_, fd, _, h1 base, He.glo_ok XK GN (D.fact 29 rfl), h2, h3⟩
theorem sc__law_pot : FnScope ["script", "k", "cell"] ["script", "k"] (defScope (top 24)) := ⟨rfl, rfl, rfl, by decide +kernel, rfl, by decide +kernel, by decide +kernel⟩
theorem fn__law_pot (XK : K.In h) (GN : h.Ns mainGlobals mg) (D : He.SaysD fa fn K) : ∃ fd, (∀ base : Heap, FnY P w K mg base 1 (He.fAd K ("_law_pot", none)) fd ["script", "k"] (spOf (sp__law_pot K))) ∧ PySem.W.keepIn K (.ref (He.fAd K ("_law_pot", none))) = true ∧ Binds K fd ["script", "k"] [] ∧ ∀ (s : Shared) (us : List Value), us.length = 2 → BindsTo s fd ⟨us, []⟩ ((["script", "k"] : List PySem.Str).zip us) := by
  obtain ⟨fd, F0⟩ := D.def_ 17 rfl
  have F : FunD K "_law_pot" "_law_pot" (defArgs (top 24)) (defBody (top 24)) (defScope (top 24)) [] [] (He.fAd K ("_law_pot", none)) fd := F0
  refine ⟨fd, fun base => ?_, F.kp, F.bindsN fun _ _ _ _ _ _ us hl => match us, hl with | [_, _], _ => rfl, fun s us hl => F.bindsA (fun _ _ _ _ _ _ us hl => match us, hl with | [_, _], _ => rfl) s us hl⟩
  have H_free_len := He.free_ok XK GN (D.fact 42 rfl)
  have H_free_max := He.free_ok XK GN (D.fact 43 rfl)
  refine yfn F sc__law_pot rfl rfl fun cdv A outer s H E hr c tk hp => ?_
  exact (mss_cons (yset c (me_int)) (mss_cons (ms_if (ytcmp opLt (yv 1) (ycb cd_len H_free_len (ycons (yv 0) (ma_nil)))) (mss_cons (yset c (yix c (yv 0) (yv 1))) (mss_nil)) (mss_nil)) (mss_cons (ms_ret (me_lstM (ycons (ycb (cd_max2 c.calm) H_free_max (ycons (me_int) (ycons (me_op opSub (yv 2) (me_op opPow (me_int) (me_int))) (ma_nil)))) (ycons (me_op opAdd (me_op opAdd (me_op opMul (me_op opMod (yv 2) (me_op opAdd (me_op opPow (me_int) (me_int)) (me_int))) (me_int)) (yv 1)) (me_int)) (ycons (me_int) (ma_nil)))))) (mss_nil))))
theorem ok__law_pot (XK : K.In h) (GN : h.Ns mainGlobals mg) (D : He.SaysD fa fn K) (base : Heap) : Cal P w K mg base 1 "_law_pot" (sp__law_pot K) := by
  obtain ⟨fd, h1, h2, h3, _⟩ := fn__law_pot (P := P) (w := w) XK GN D
  exact ⟨_, fd, _, h1 base, He.glo_ok XK GN (D.fact 27 rfl), h2, h3⟩
theorem sc__law_base : FnScope ["loop", "size", "part"] ["loop"] (defScope (top 27)) := ⟨rfl, rfl, rfl, by decide +kernel, rfl, by decide +kernel, by decide +kernel⟩
theorem fn__law_base (XK : K.In h) (GN : h.Ns mainGlobals mg) (D : He.SaysD fa fn K) : ∃ fd, (∀ base : Heap, FnY P w K mg base 1 (He.fAd K ("_law_base", none)) fd ["loop"] (spOf (sp__law_base K))) ∧ PySem.W.keepIn K (.ref (He.fAd K ("_law_base", none))) = true ∧ Binds K fd ["loop"] [] ∧ ∀ (s : Shared) (us : List Value), us.length = 1 → BindsTo s fd ⟨us, []⟩ ((["loop"] : List PySem.Str).zip us) := by
  obtain ⟨fd, F0⟩ := D.def_ 20 rfl
  have F : FunD K "_law_base" "_law_base" (defArgs (top 27)) (defBody (top 27)) (defScope (top 27)) [] [] (He.fAd K ("_law_base", none)) fd := F0
  refine ⟨fd, fun base => ?_, F.kp, F.bindsN fun _ _ _ _ _ _ us hl => match us, hl with | [_], _ => rfl, fun s us hl => F.bindsA (fun _ _ _ _ _ _ us hl => match us, hl with | [_], _ => rfl) s us hl⟩
  have H_free_len := He.free_ok XK GN (D.fact 42 rfl)
  have H_free_range := He.free_ok XK GN (D.fact 45 rfl)
  refine yfn F sc__law_base rfl rfl fun cdv A outer s H E hr c tk hp => ?_
  exact (mss_cons (yset c (ycb cd_len H_free_len (ycons (yv 0) (ma_nil)))) (mss_cons (yfor hp c (yrg2 H_free_range (me_int) (yv 1)) (ytg1 c) (mss_cons (ms_if (MW.mt (mw_and (ytcmp (opEq c.hu) (me_op opMod (yv 1) (yv 2)) (me_int)) (mw_and1 (ytcmp (opEq c.hu) (me_sl (yv 0) (mo_some (yv 2)) (mo_none)) (me_sl (yv 0) (mo_none) (mo_some (me_op opSub (yv 1) (yv 2)))))))) (mss_cons (ms_ret (me_sl (yv 0) (mo_none) (mo_some (yv 2)))) (mss_nil)) (mss_nil)) (mss_nil))) (mss_cons (ms_ret (yv 0)) (mss_nil))))
theorem ok__law_base (XK : K.In h) (GN : h.Ns mainGlobals mg) (D : He.SaysD fa fn K) (base : Heap) : Cal P w K mg base 1 "_law_base" (sp__law_base K) := by
  obtain ⟨fd, h1, h2, h3, _⟩ := fn__law_base (P := P) (w := w) XK GN D
  exact ⟨_, fd, _, h1 base, He.glo_ok XK GN (D.fact 30 rfl), h2, h3⟩
theorem sc__law_longest : FnScope ["base", "there", "place", "size", "word"] ["base", "there", "place"] (defScope (top 29)) := ⟨rfl, rfl, rfl, by decide +kernel, rfl, by decide +kernel, by decide +kernel⟩
theorem fn__law_longest (XK : K.In h) (GN : h.Ns mainGlobals mg) (D : He.SaysD fa fn K) : ∃ fd, (∀ base : Heap, FnY P w K mg base 1 (He.fAd K ("_law_longest", none)) fd ["base", "there", "place"] (spOf (sp__law_longest K))) ∧ PySem.W.keepIn K (.ref (He.fAd K ("_law_longest", none))) = true ∧ Binds K fd ["base", "there", "place"] [] ∧ ∀ (s : Shared) (us : List Value), us.length = 3 → BindsTo s fd ⟨us, []⟩ ((["base", "there", "place"] : List PySem.Str).zip us) := by
  obtain ⟨fd, F0⟩ := D.def_ 22 rfl
  have F : FunD K "_law_longest" "_law_longest" (defArgs (top 29)) (defBody (top 29)) (defScope (top 29)) [] [] (He.fAd K ("_law_longest", none)) fd := F0
  refine ⟨fd, fun base => ?_, F.kp, F.bindsN fun _ _ _ _ _ _ us hl => match us, hl with | [_, _, _], _ => rfl, fun s us hl => F.bindsA (fun _ _ _ _ _ _ us hl => match us, hl with | [_, _, _], _ => rfl) s us hl⟩
  have H_free_len := He.free_ok XK GN (D.fact 42 rfl)
  refine yfn F sc__law_longest rfl rfl fun cdv A outer s H E hr c tk hp => ?_
  exact (mss_cons (yset c (me_int)) (mss_cons (yset c (yix c (yv 0) (yv 2))) (mss_cons (ms_while hp (ytcmp (opIn c.u1) (yv 4) (yv 1)) (mss_cons (yset c (me_op opAdd (yv 3) (me_int))) (mss_cons (yset c (me_op opAdd (yv 4) (yix c (yv 0) (me_op opMod (me_op opAdd (yv 2) (yv 3)) (ycb cd_len H_free_len (ycons (yv 0) (ma_nil))))))) (mss_nil)))) (mss_cons (ms_ret (yv 3)) (mss_nil)))))
theorem ok__law_longest (XK : K.In h) (GN : h.Ns mainGlobals mg) (D : He.SaysD fa fn K) (base : Heap) : Cal P w K mg base 1 "_law_longest" (sp__law_longest K) := by
  obtain ⟨fd, h1, h2, h3, _⟩ := fn__law_longest (P := P) (w := w) XK GN D
  exact ⟨_, fd, _, h1 base, He.glo_ok XK GN (D.fact 32 rfl), h2, h3⟩
theorem sc_longest_on : FnScope ["loop", "known", "place", "word"] ["loop", "known", "place"] (defScope (top 15)) := ⟨rfl, rfl, rfl, by decide +kernel, rfl, by decide +kernel, by decide +kernel⟩
theorem fn_longest_on (XK : K.In h) (GN : h.Ns mainGlobals mg) (D : He.SaysD fa fn K) : ∃ fd, (∀ base : Heap, FnY P w K mg base 1 (He.fAd K ("longest_on", none)) fd ["loop", "known", "place"] (spOf (sp_longest_on K))) ∧ PySem.W.keepIn K (.ref (He.fAd K ("longest_on", none))) = true ∧ Binds K fd ["loop", "known", "place"] [] ∧ ∀ (s : Shared) (us : List Value), us.length = 3 → BindsTo s fd ⟨us, []⟩ ((["loop", "known", "place"] : List PySem.Str).zip us) := by
  obtain ⟨fd, F0⟩ := D.def_ 6 rfl
  have F : FunD K "longest_on" "longest_on" (defArgs (top 15)) (defBody (top 15)) (defScope (top 15)) [] [] (He.fAd K ("longest_on", none)) fd := F0
  refine ⟨fd, fun base => ?_, F.kp, F.bindsN fun _ _ _ _ _ _ us hl => match us, hl with | [_, _, _], _ => rfl, fun s us hl => F.bindsA (fun _ _ _ _ _ _ us hl => match us, hl with | [_, _, _], _ => rfl) s us hl⟩
  have H_free_len := He.free_ok XK GN (D.fact 42 rfl)
  refine yfn F sc_longest_on rfl rfl fun cdv A outer s H E hr c tk hp => ?_
  exact (mss_cons (yset c (yix c (yv 0) (yv 2))) (mss_cons (ms_while hp (ytcmp (opIn c.u1) (yv 3) (yv 1)) (mss_cons (yaug c ipAdd (yix c (yv 0) (me_op opMod (me_op opAdd (yv 2) (ycb cd_len H_free_len (ycons (yv 3) (ma_nil)))) (ycb cd_len H_free_len (ycons (yv 0) (ma_nil)))))) (mss_nil))) (mss_cons (ms_ret (me_op opSub (ycb cd_len H_free_len (ycons (yv 3) (ma_nil))) (me_int))) (mss_nil))))
theorem ok_longest_on (XK : K.In h) (GN : h.Ns mainGlobals mg) (D : He.SaysD fa fn K) (base : Heap) : Cal P w K mg base 1 "longest_on" (sp_longest_on K) := by
  obtain ⟨fd, h1, h2, h3, _⟩ := fn_longest_on (P := P) (w := w) XK GN D
  exact ⟨_, fd, _, h1 base, He.glo_ok XK GN (D.fact 9 rfl), h2, h3⟩
theorem sc_Growing_all_lengths : FnScope ["self", "place"] ["self"] (defScope (inClass (top 18) 1)) := ⟨rfl, rfl, rfl, by decide +kernel, rfl, by decide +kernel, by decide +kernel⟩
theorem fn_Growing_all_lengths (XK : K.In h) (GN : h.Ns mainGlobals mg) (D : He.SaysD fa fn K) : ∃ fd, (∀ base : Heap, FnY P w K mg base 2 (He.fAd K ("Growing", some "all_lengths")) fd ["self"] (spOf (sp_Growing_all_lengths K))) ∧ PySem.W.keepIn K (.ref (He.fAd K ("Growing", some "all_lengths"))) = true ∧ Binds K fd ["self"] [] ∧ ∀ (s : Shared) (us : List Value), us.length = 1 → BindsTo s fd ⟨us, []⟩ ((["self"] : List PySem.Str).zip us) := by
  obtain ⟨fd, F0⟩ := D.def_ 9 rfl
  have F : FunD K "all_lengths" "Growing.all_lengths" (defArgs (inClass (top 18) 1)) (defBody (inClass (top 18) 1)) (defScope (inClass (top 18) 1)) [] [] (He.fAd K ("Growing", some "all_lengths")) fd := F0
  refine ⟨fd, fun base => ?_, F.kp, F.bindsN fun _ _ _ _ _ _ us hl => match us, hl with | [_], _ => rfl, fun s us hl => F.bindsA (fun _ _ _ _ _ _ us hl => match us, hl with | [_], _ => rfl) s us hl⟩
  have H_free_range := He.free_ok XK GN (D.fact 45 rfl)
  have H_cls_Growing := He.cls_ok (D.fact 12 rfl)
  have H_noat_Growing_base := He.noat_ok (D.fact 15 rfl)
  have H_free_len := He.free_ok XK GN (D.fact 42 rfl)
  have H_noat_Growing_there := He.noat_ok (D.fact 16 rfl)
  have H_cal_longest_on := ok_longest_on XK GN D base (P := P) (w := w)
  have H_free_tuple := He.free_ok XK GN (D.fact 49 rfl)
  refine yfn F sc_Growing_all_lengths rfl rfl fun cdv A outer s H E hr c tk hp => ?_
  exact (mss_cons (ms_ret (yct cd_tup H_free_tuple (ycons (ylc (own := [("place", 1)]) c (yrg1 H_free_range (ycb cd_len H_free_len (ycons (yfld (yv 0) H_cls_Growing H_noat_Growing_base) (ma_nil)))) (fun _ _ _ _ _ => ypg1 c.blk) (fun _ _ _ _ _ => mts_nil) (fun _ _ _ _ _ => ycall H_cal_longest_on hr takes0 (ycons (yfld (yv 0) H_cls_Growing H_noat_Growing_base) (ycons (yfld (yv 0) H_cls_Growing H_noat_Growing_there) (ycons (yv 1) (ma_nil)))))) (ma_nil)))) (mss_nil))
theorem ok_Growing_all_lengths (XK : K.In h) (GN : h.Ns mainGlobals mg) (D : He.SaysD fa fn K) (base : Heap) : Clm P w K mg base 2 (He.ga K "Growing") "all_lengths" (sp_Growing_all_lengths K) := by
  obtain ⟨fd, h1, h2, h3, _⟩ := fn_Growing_all_lengths (P := P) (w := w) XK GN D
  exact ⟨_, fd, _, h1 base, He.meth_ok (D.fact 19 rfl), He.cls_ok (D.fact 12 rfl), h3⟩
theorem sc_root_of : FnScope ["loop", "many", "part"] ["loop"] (defScope (top 13)) := ⟨rfl, rfl, rfl, by decide +kernel, rfl, by decide +kernel, by decide +kernel⟩
theorem fn_root_of (XK : K.In h) (GN : h.Ns mainGlobals mg) (D : He.SaysD fa fn K) : ∃ fd, (∀ base : Heap, FnY P w K mg base 1 (He.fAd K ("root_of", none)) fd ["loop"] (spOf (sp_root_of K))) ∧ PySem.W.keepIn K (.ref (He.fAd K ("root_of", none))) = true ∧ Binds K fd ["loop"] [] ∧ ∀ (s : Shared) (us : List Value), us.length = 1 → BindsTo s fd ⟨us, []⟩ ((["loop"] : List PySem.Str).zip us) := by
  obtain ⟨fd, F0⟩ := D.def_ 5 rfl
  have F : FunD K "root_of" "root_of" (defArgs (top 13)) (defBody (top 13)) (defScope (top 13)) [] [] (He.fAd K ("root_of", none)) fd := F0
  refine ⟨fd, fun base => ?_, F.kp, F.bindsN fun _ _ _ _ _ _ us hl => match us, hl with | [_], _ => rfl, fun s us hl => F.bindsA (fun _ _ _ _ _ _ us hl => match us, hl with | [_], _ => rfl) s us hl⟩
  have H_free_len := He.free_ok XK GN (D.fact 42 rfl)
  have H_free_range := He.free_ok XK GN (D.fact 45 rfl)
  refine yfn F sc_root_of rfl rfl fun cdv A outer s H E hr c tk hp => ?_
  exact (mss_cons (yset c (ycb cd_len H_free_len (ycons (yv 0) (ma_nil)))) (mss_cons (ms_ret (yix c (ylc (own := [("part", 2)]) c (yrg2 H_free_range (me_int) (me_op opAdd (yv 1) (me_int))) (fun _ _ _ _ _ => ypg1 c.blk) (fun _ _ _ _ _ => mts_one (ytcmp (opEq c.blk.hu) (yv 0) (me_op opMul (me_sl (yv 0) (mo_none) (mo_some (yv 2))) (me_op opDiv (yv 1) (yv 2))))) (fun _ _ _ _ _ => me_sl (yv 0) (mo_none) (mo_some (yv 2)))) (me_int))) (mss_nil)))
theorem ok_root_of (XK : K.In h) (GN : h.Ns mainGlobals mg) (D : He.SaysD fa fn K) (base : Heap) : Cal P w K mg base 1 "root_of" (sp_root_of K) := by
  obtain ⟨fd, h1, h2, h3, _⟩ := fn_root_of (P := P) (w := w) XK GN D
  exact ⟨_, fd, _, h1 base, He.glo_ok XK GN (D.fact 8 rfl), h2, h3⟩
theorem sc_Growing___init__ : FnScope ["self", "loop", "known", "word"] ["self", "loop", "known"] (defScope (inClass (top 18) 0)) := ⟨rfl, rfl, rfl, by decide +kernel, rfl, by decide +kernel, by decide +kernel⟩
theorem fn_Growing___init__ (XK : K.In h) (GN : h.Ns mainGlobals mg) (D : He.SaysD fa fn K) : ∃ fd, (∀ base : Heap, FnY P w K mg base 2 (He.fAd K ("Growing", some "__init__")) fd ["self", "loop", "known"] (spOf (sp_Growing___init__ K))) ∧ PySem.W.keepIn K (.ref (He.fAd K ("Growing", some "__init__"))) = true ∧ Binds K fd ["self", "loop", "known"] [] ∧ ∀ (s : Shared) (us : List Value), us.length = 3 → BindsTo s fd ⟨us, []⟩ ((["self", "loop", "known"] : List PySem.Str).zip us) := by
  obtain ⟨fd, F0⟩ := D.def_ 8 rfl
  have F : FunD K "__init__" "Growing.__init__" (defArgs (inClass (top 18) 0)) (defBody (inClass (top 18) 0)) (defScope (inClass (top 18) 0)) [] [] (He.fAd K ("Growing", some "__init__")) fd := F0
  refine ⟨fd, fun base => ?_, F.kp, F.bindsN fun _ _ _ _ _ _ us hl => match us, hl with | [_, _, _], _ => rfl, fun s us hl => F.bindsA (fun _ _ _ _ _ _ us hl => match us, hl with | [_, _, _], _ => rfl) s us hl⟩
  have H_cal_root_of := ok_root_of XK GN D base (P := P) (w := w)
  have H_cls_Growing := He.cls_ok (D.fact 12 rfl)
  have H_noat_Growing_base := He.noat_ok (D.fact 15 rfl)
  have H_noat_Growing_there := He.noat_ok (D.fact 16 rfl)
  have H_noat_Growing_spot := He.noat_ok (D.fact 17 rfl)
  have H_noat_Growing_new_words := He.noat_ok (D.fact 18 rfl)
  refine yfn F sc_Growing___init__ rfl rfl fun cdv A outer s H E hr c tk hp => ?_
  exact (mss_cons (yfldS (yv 0) (ycall H_cal_root_of hr tk (ycons (yv 1) (ma_nil))) H_cls_Growing H_noat_Growing_base) (mss_cons (yfldS (yv 0) (ydc (own := [("word", 3)]) c (mi_row (yv 2)) (fun _ _ _ _ _ => ypg1 c.blk) (fun _ _ _ _ _ => mts_nil) (fun _ _ _ _ _ => yv 3) (fun _ _ _ _ _ => me_bl)) H_cls_Growing H_noat_Growing_there) (mss_cons (yfldS (yv 0) (me_int) H_cls_Growing H_noat_Growing_spot) (mss_cons (yfldS (yv 0) (me_lstM (ma_nil)) H_cls_Growing H_noat_Growing_new_words) (mss_nil)))))
theorem mk_Growing (XK : K.In h) (GN : h.Ns mainGlobals mg) (D : He.SaysD fa fn K) (base : Heap) : Mak P w K mg base 2 "Growing" (He.ga K "Growing") (sp_Growing___init__ K) := by
  obtain ⟨fd, h1, h2, h3, _⟩ := fn_Growing___init__ (P := P) (w := w) XK GN D
  exact ⟨_, fd, _, h1 base, He.mkr_ok (D.fact 13 rfl), He.glo_ok XK GN (D.fact 11 rfl), h3⟩
theorem sc_Growing_has_grown : FnScope ["self"] ["self"] (defScope (inClass (top 18) 2)) := ⟨rfl, rfl, rfl, by decide +kernel, rfl, by decide +kernel, by decide +kernel⟩
theorem fn_Growing_has_grown (XK : K.In h) (GN : h.Ns mainGlobals mg) (D : He.SaysD fa fn K) : ∃ fd, (∀ base : Heap, FnY P w K mg base 3 (He.fAd K ("Growing", some "has_grown")) fd ["self"] (spOf (sp_Growing_has_grown K))) ∧ PySem.W.keepIn K (.ref (He.fAd K ("Growing", some "has_grown"))) = true ∧ Binds K fd ["self"] [] ∧ ∀ (s : Shared) (us : List Value), us.length = 1 → BindsTo s fd ⟨us, []⟩ ((["self"] : List PySem.Str).zip us) := by
  obtain ⟨fd, F0⟩ := D.def_ 10 rfl
  have F : FunD K "has_grown" "Growing.has_grown" (defArgs (inClass (top 18) 2)) (defBody (inClass (top 18) 2)) (defScope (inClass (top 18) 2)) [] [] (He.fAd K ("Growing", some "has_grown")) fd := F0
  refine ⟨fd, fun base => ?_, F.kp, F.bindsN fun _ _ _ _ _ _ us hl => match us, hl with | [_], _ => rfl, fun s us hl => F.bindsA (fun _ _ _ _ _ _ us hl => match us, hl with | [_], _ => rfl) s us hl⟩
  have H_clm_Growing_all_lengths := ok_Growing_all_lengths XK GN D base (P := P) (w := w)
  have H_free_min := He.free_ok XK GN (D.fact 44 rfl)
  have H_cls_Growing := He.cls_ok (D.fact 12 rfl)
  have H_noat_Growing_base := He.noat_ok (D.fact 15 rfl)
  have H_free_len := He.free_ok XK GN (D.fact 42 rfl)
  refine yfn F sc_Growing_has_grown rfl rfl fun cdv A outer s H E hr c tk hp => ?_
  exact (mss_cons (ms_ret (ycmp opGe (ycb (cd_min1 c.calm c.hu) H_free_min (ycons (ymeth0 H_clm_Growing_all_lengths hr tk (yv 0)) (ma_nil))) (me_op opSub (ycb cd_len H_free_len (ycons (yfld (yv 0) H_cls_Growing H_noat_Growing_base) (ma_nil))) (me_int)))) (mss_nil))
theorem ok_Growing_has_grown (XK : K.In h) (GN : h.Ns mainGlobals mg) (D : He.SaysD fa fn K) (base : Heap) : Clm P w K mg base 3 (He.ga K "Growing") "has_grown" (sp_Growing_has_grown K) := by
  obtain ⟨fd, h1, h2, h3, _⟩ := fn_Growing_has_grown (P := P) (w := w) XK GN D
  exact ⟨_, fd, _, h1 base, He.meth_ok (D.fact 20 rfl), He.cls_ok (D.fact 12 rfl), h3⟩
theorem sc_spelled : FnScope ["loop", "place", "length"] ["loop", "place", "length"] (defScope (top 17)) := ⟨rfl, rfl, rfl, by decide +kernel, rfl, by decide +kernel, by decide +kernel⟩
theorem fn_spelled (XK : K.In h) (GN : h.Ns mainGlobals mg) (D : He.SaysD fa fn K) : ∃ fd, (∀ base : Heap, FnY P w K mg base 1 (He.fAd K ("spelled", none)) fd ["loop", "place", "length"] (spOf (sp_spelled K))) ∧ PySem.W.keepIn K (.ref (He.fAd K ("spelled", none))) = true ∧ Binds K fd ["loop", "place", "length"] [] ∧ ∀ (s : Shared) (us : List Value), us.length = 3 → BindsTo s fd ⟨us, []⟩ ((["loop", "place", "length"] : List PySem.Str).zip us) := by
  obtain ⟨fd, F0⟩ := D.def_ 7 rfl
  have F : FunD K "spelled" "spelled" (defArgs (top 17)) (defBody (top 17)) (defScope (top 17)) [] [] (He.fAd K ("spelled", none)) fd := F0
  refine ⟨fd, fun base => ?_, F.kp, F.bindsN fun _ _ _ _ _ _ us hl => match us, hl with | [_, _, _], _ => rfl, fun s us hl => F.bindsA (fun _ _ _ _ _ _ us hl => match us, hl with | [_, _, _], _ => rfl) s us hl⟩
  have H_free_len := He.free_ok XK GN (D.fact 42 rfl)
  refine yfn F sc_spelled rfl rfl fun cdv A outer s H E hr c tk hp => ?_
  exact (mss_cons (ms_ret (me_sl (me_op opMul (yv 0) (me_op opAdd (me_op opDiv (yv 2) (ycb cd_len H_free_len (ycons (yv 0) (ma_nil)))) (me_int))) (mo_some (yv 1)) (mo_some (me_op opAdd (yv 1) (yv 2))))) (mss_nil))
theorem ok_spelled (XK : K.In h) (GN : h.Ns mainGlobals mg) (D : He.SaysD fa fn K) (base : Heap) : Cal P w K mg base 1 "spelled" (sp_spelled K) := by
  obtain ⟨fd, h1, h2, h3, _⟩ := fn_spelled (P := P) (w := w) XK GN D
  exact ⟨_, fd, _, h1 base, He.glo_ok XK GN (D.fact 10 rfl), h2, h3⟩
theorem sc_Growing_read_word : FnScope ["self", "length"] ["self"] (defScope (inClass (top 18) 3)) := ⟨rfl, rfl, rfl, by decide +kernel, rfl, by decide +kernel, by decide +kernel⟩
theorem fn_Growing_read_word (XK : K.In h) (GN : h.Ns mainGlobals mg) (D : He.SaysD fa fn K) : ∃ fd, (∀ base : Heap, FnY P w K mg base 2 (He.fAd K ("Growing", some "read_word")) fd ["self"] (spOf (sp_Growing_read_word K))) ∧ PySem.W.keepIn K (.ref (He.fAd K ("Growing", some "read_word"))) = true ∧ Binds K fd ["self"] [] ∧ ∀ (s : Shared) (us : List Value), us.length = 1 → BindsTo s fd ⟨us, []⟩ ((["self"] : List PySem.Str).zip us) := by
  obtain ⟨fd, F0⟩ := D.def_ 11 rfl
  have F : FunD K "read_word" "Growing.read_word" (defArgs (inClass (top 18) 3)) (defBody (inClass (top 18) 3)) (defScope (inClass (top 18) 3)) [] [] (He.fAd K ("Growing", some "read_word")) fd := F0
  refine ⟨fd, fun base => ?_, F.kp, F.bindsN fun _ _ _ _ _ _ us hl => match us, hl with | [_], _ => rfl, fun s us hl => F.bindsA (fun _ _ _ _ _ _ us hl => match us, hl with | [_], _ => rfl) s us hl⟩
  have H_cls_Growing := He.cls_ok (D.fact 12 rfl)
  have H_noat_Growing_base := He.noat_ok (D.fact 15 rfl)
  have H_noat_Growing_there := He.noat_ok (D.fact 16 rfl)
  have H_noat_Growing_spot := He.noat_ok (D.fact 17 rfl)
  have H_cal_longest_on := ok_longest_on XK GN D base (P := P) (w := w)
  have H_cal_spelled := ok_spelled XK GN D base (P := P) (w := w)
  have H_noat_Growing_new_words := He.noat_ok (D.fact 18 rfl)
  have H_free_len := He.free_ok XK GN (D.fact 42 rfl)
  refine yfn F sc_Growing_read_word rfl rfl fun cdv A outer s H E hr c tk hp => ?_
  exact (mss_cons (yset c (me_op opAdd (ycall H_cal_longest_on hr tk (ycons (yfld (yv 0) H_cls_Growing H_noat_Growing_base) (ycons (yfld (yv 0) H_cls_Growing H_noat_Growing_there) (ycons (yfld (yv 0) H_cls_Growing H_noat_Growing_spot) (ma_nil))))) (me_int))) (mss_cons (yasg (me_bl) (ysub c (yfld (yv 0) H_cls_Growing H_noat_Growing_there) (ycall H_cal_spelled hr tk (ycons (yfld (yv 0) H_cls_Growing H_noat_Growing_base) (ycons (yfld (yv 0) H_cls_Growing H_noat_Growing_spot) (ycons (yv 1) (ma_nil))))))) (mss_cons (yexpr (ybm PySem.F.plainAttrs_list PySem.F.slot_list_append PySem.F.type_list_append mtd_append (yfld (yv 0) H_cls_Growing H_noat_Growing_new_words) (ycons (me_tup (ycons (yfld (yv 0) H_cls_Growing H_noat_Growing_spot) (ycons (yv 1) (ma_nil)))) (ma_nil)))) (mss_cons (yfldS (yv 0) (me_op opMod (me_op opAdd (yfld (yv 0) H_cls_Growing H_noat_Growing_spot) (yv 1)) (ycb cd_len H_free_len (ycons (yfld (yv 0) H_cls_Growing H_noat_Growing_base) (ma_nil)))) H_cls_Growing H_noat_Growing_spot) (mss_nil)))))
theorem ok_Growing_read_word (XK : K.In h) (GN : h.Ns mainGlobals mg) (D : He.SaysD fa fn K) (base : Heap) : Clm P w K mg base 2 (He.ga K "Growing") "read_word" (sp_Growing_read_word K) := by
  obtain ⟨fd, h1, h2, h3, _⟩ := fn_Growing_read_word (P := P) (w := w) XK GN D
  exact ⟨_, fd, _, h1 base, He.meth_ok (D.fact 21 rfl), He.cls_ok (D.fact 12 rfl), h3⟩
theorem sc_Growing_read_on_till_grown : FnScope ["self"] ["self"] (defScope (inClass (top 18) 4)) := ⟨rfl, rfl, rfl, by decide +kernel, rfl, by decide +kernel, by decide +kernel⟩
theorem fn_Growing_read_on_till_grown (XK : K.In h) (GN : h.Ns mainGlobals mg) (D : He.SaysD fa fn K) : ∃ fd, (∀ base : Heap, FnY P w K mg base 4 (He.fAd K ("Growing", some "read_on_till_grown")) fd ["self"] (spOf (sp_Growing_read_on_till_grown K))) ∧ PySem.W.keepIn K (.ref (He.fAd K ("Growing", some "read_on_till_grown"))) = true ∧ Binds K fd ["self"] [] ∧ ∀ (s : Shared) (us : List Value), us.length = 1 → BindsTo s fd ⟨us, []⟩ ((["self"] : List PySem.Str).zip us) := by
  obtain ⟨fd, F0⟩ := D.def_ 12 rfl
  have F : FunD K "read_on_till_grown" "Growing.read_on_till_grown" (defArgs (inClass (top 18) 4)) (defBody (inClass (top 18) 4)) (defScope (inClass (top 18) 4)) [] [] (He.fAd K ("Growing", some "read_on_till_grown")) fd := F0
  refine ⟨fd, fun base => ?_, F.kp, F.bindsN fun _ _ _ _ _ _ us hl => match us, hl with | [_], _ => rfl, fun s us hl => F.bindsA (fun _ _ _ _ _ _ us hl => match us, hl with | [_], _ => rfl) s us hl⟩
  have H_clm_Growing_has_grown := ok_Growing_has_grown XK GN D base (P := P) (w := w)
  have H_clm_Growing_read_word := ok_Growing_read_word XK GN D base (P := P) (w := w)
  refine yfn F sc_Growing_read_on_till_grown rfl rfl fun cdv A outer s H E hr c tk hp => ?_
  exact (mss_cons (ms_while hp (mt_not (ytv (ymeth0 H_clm_Growing_has_grown hr tk (yv 0)))) (mss_cons (yexpr (ymeth0 H_clm_Growing_read_word hr tk (yv 0))) (mss_nil))) (mss_nil))
theorem ok_Growing_read_on_till_grown (XK : K.In h) (GN : h.Ns mainGlobals mg) (D : He.SaysD fa fn K) (base : Heap) : Clm P w K mg base 4 (He.ga K "Growing") "read_on_till_grown" (sp_Growing_read_on_till_grown K) := by
  obtain ⟨fd, h1, h2, h3, _⟩ := fn_Growing_read_on_till_grown (P := P) (w := w) XK GN D
  exact ⟨_, fd, _, h1 base, He.meth_ok (D.fact 22 rfl), He.cls_ok (D.fact 12 rfl), h3⟩
theorem sc_are_letters : FnScope ["thing", "sign"] ["thing"] (defScope (top 6)) := ⟨rfl, rfl, rfl, by decide +kernel, rfl, by decide +kernel, by decide +kernel⟩
theorem fn_are_letters (XK : K.In h) (GN : h.Ns mainGlobals mg) (D : He.SaysD fa fn K) : ∃ fd, (∀ base : Heap, FnY P w K mg base 1 (He.fAd K ("are_letters", none)) fd ["thing"] (spOf (sp_are_letters K))) ∧ PySem.W.keepIn K (.ref (He.fAd K ("are_letters", none))) = true ∧ Binds K fd ["thing"] [] ∧ ∀ (s : Shared) (us : List Value), us.length = 1 → BindsTo s fd ⟨us, []⟩ ((["thing"] : List PySem.Str).zip us) := by
  obtain ⟨fd, F0⟩ := D.def_ 0 rfl
  have F : FunD K "are_letters" "are_letters" (defArgs (top 6)) (defBody (top 6)) (defScope (top 6)) [] [] (He.fAd K ("are_letters", none)) fd := F0
  refine ⟨fd, fun base => ?_, F.kp, F.bindsN fun _ _ _ _ _ _ us hl => match us, hl with | [_], _ => rfl, fun s us hl => F.bindsA (fun _ _ _ _ _ _ us hl => match us, hl with | [_], _ => rfl) s us hl⟩
  have H_free_str := He.free_ok XK GN (D.fact 48 rfl)
  have H_free_isinstance := He.free_ok XK GN (D.fact 41 rfl)
  have H_str_SMALL := He.str_ok XK GN (D.fact 35 rfl)
  have H_free_all := He.free_ok XK GN (D.fact 38 rfl)
  refine yfn F sc_are_letters rfl rfl fun cdv A outer s H E hr c tk hp => ?_
  exact (mss_cons (ms_ret (me_and (ycb cd_isi H_free_isinstance (ycons (yv 0) (ycons (yty H_free_str) (ma_nil)))) (me_one (ycb (cd_all c.calm) H_free_all (ycons (ylc (own := [("sign", 1)]) c (mi_row (yv 0)) (fun _ _ _ _ _ => ypg1 c.blk) (fun _ _ _ _ _ => mts_nil) (fun _ _ _ _ _ => ycmp (opIn c.blk.u1) (yv 1) (ygs H_str_SMALL))) (ma_nil)))))) (mss_nil))
theorem ok_are_letters (XK : K.In h) (GN : h.Ns mainGlobals mg) (D : He.SaysD fa fn K) (base : Heap) : Cal P w K mg base 1 "are_letters" (sp_are_letters K) := by
  obtain ⟨fd, h1, h2, h3, _⟩ := fn_are_letters (P := P) (w := w) XK GN D
  exact ⟨_, fd, _, h1 base, He.glo_ok XK GN (D.fact 3 rfl), h2, h3⟩
theorem sc_is_known : FnScope ["thing", "there", "word", "one", "other"] ["thing"] (defScope (top 7)) := ⟨rfl, rfl, rfl, by decide +kernel, rfl, by decide +kernel, by decide +kernel⟩
theorem fn_is_known (XK : K.In h) (GN : h.Ns mainGlobals mg) (D : He.SaysD fa fn K) : ∃ fd, (∀ base : Heap, FnY P w K mg base 2 (He.fAd K ("is_known", none)) fd ["thing"] (spOf (sp_is_known K))) ∧ PySem.W.keepIn K (.ref (He.fAd K ("is_known", none))) = true ∧ Binds K fd ["thing"] [] ∧ ∀ (s : Shared) (us : List Value), us.length = 1 → BindsTo s fd ⟨us, []⟩ ((["thing"] : List PySem.Str).zip us) := by
  obtain ⟨fd, F0⟩ := D.def_ 1 rfl
  have F : FunD K "is_known" "is_known" (defArgs (top 7)) (defBody (top 7)) (defScope (top 7)) [] [] (He.fAd K ("is_known", none)) fd := F0
  refine ⟨fd, fun base => ?_, F.kp, F.bindsN fun _ _ _ _ _ _ us hl => match us, hl with | [_], _ => rfl, fun s us hl => F.bindsA (fun _ _ _ _ _ _ us hl => match us, hl with | [_], _ => rfl) s us hl⟩
  have H_free_tuple := He.free_ok XK GN (D.fact 49 rfl)
  have H_free_isinstance := He.free_ok XK GN (D.fact 41 rfl)
  have H_cal_are_letters := ok_are_letters XK GN D base (P := P) (w := w)
  have H_free_all := He.free_ok XK GN (D.fact 38 rfl)
  have H_free_zip := He.free_ok XK GN (D.fact 50 rfl)
  have H_free_len := He.free_ok XK GN (D.fact 42 rfl)
  refine yfn F sc_is_known rfl rfl fun cdv A outer s H E hr c tk hp => ?_
  exact (mss_cons (ms_if (MW.mt (mw_or (mt_not (ytv (ycb cd_isi H_free_isinstance (ycons (yv 0) (ycons (yty H_free_tuple) (ma_nil)))))) (mw_or1 (mt_not (ytv (ycb (cd_all c.calm) H_free_all (ycons (ylc (own := [("word", 2)]) c (mi_row (yv 0)) (fun _ _ _ _ _ => ypg1 c.blk) (fun _ _ _ _ _ => mts_nil) (fun _ _ _ _ _ => me_and (ycall H_cal_are_letters hr takes0 (ycons (yv 2) (ma_nil))) (me_one (ycmp (opNe c.blk.hu) (yv 2) (ystr))))) (ma_nil)))))))) (mss_cons (ms_ret (me_bl)) (mss_nil)) (mss_nil)) (mss_cons (ms_if (mt_not (ytv (ycb (cd_all c.calm) H_free_all (ycons (ylc (own := [("one", 3), ("other", 4)]) c (yzip H_free_zip (yv 0) (me_sl (yv 0) (mo_some (me_int)) (mo_none))) (fun _ _ _ _ _ => ypg2 c.blk (ynat (ynat (NamesAt.nil)))) (fun _ _ _ _ _ => mts_nil) (fun _ _ _ _ _ => ycmp opLt (yv 3) (yv 4))) (ma_nil))))) (mss_cons (ms_ret (me_bl)) (mss_nil)) (mss_nil)) (mss_cons (yset c (ydc (own := [("word", 2)]) c (mi_row (yv 0)) (fun _ _ _ _ _ => ypg1 c.blk) (fun _ _ _ _ _ => mts_nil) (fun _ _ _ _ _ => yv 2) (fun _ _ _ _ _ => me_bl))) (mss_cons (ms_ret (ycb (cd_all c.calm) H_free_all (ycons (ylc (own := [("word", 2)]) c (mi_row (yv 0)) (fun _ _ _ _ _ => ypg1 c.blk) (fun _ _ _ _ _ => mts_nil) (fun _ _ _ _ _ => me_or (ycmp (opEq c.blk.hu) (ycb cd_len H_free_len (ycons (yv 2) (ma_nil))) (me_int)) (me_one (ycmp (opIn c.blk.u1) (me_sl (yv 2) (mo_none) (mo_some (yneg (me_int)))) (yv 1))))) (ma_nil)))) (mss_nil)))))
theorem ok_is_known (XK : K.In h) (GN : h.Ns mainGlobals mg) (D : He.SaysD fa fn K) (base : Heap) : Cal P w K mg base 2 "is_known" (sp_is_known K) := by
  obtain ⟨fd, h1, h2, h3, _⟩ := fn_is_known (P := P) (w := w) XK GN D
  exact ⟨_, fd, _, h1 base, He.glo_ok XK GN (D.fact 4 rfl), h2, h3⟩
theorem sc_need_known : FnScope ["thing"] ["thing"] (defScope (top 8)) := ⟨rfl, rfl, rfl, by decide +kernel, rfl, by decide +kernel, by decide +kernel⟩
theorem fn_need_known (XK : K.In h) (GN : h.Ns mainGlobals mg) (D : He.SaysD fa fn K) : ∃ fd, (∀ base : Heap, FnY P w K mg base 3 (He.fAd K ("need_known", none)) fd ["thing"] (spOf (sp_need_known K))) ∧ PySem.W.keepIn K (.ref (He.fAd K ("need_known", none))) = true ∧ Binds K fd ["thing"] [] ∧ ∀ (s : Shared) (us : List Value), us.length = 1 → BindsTo s fd ⟨us, []⟩ ((["thing"] : List PySem.Str).zip us) := by
  obtain ⟨fd, F0⟩ := D.def_ 2 rfl
  have F : FunD K "need_known" "need_known" (defArgs (top 8)) (defBody (top 8)) (defScope (top 8)) [] [] (He.fAd K ("need_known", none)) fd := F0
  refine ⟨fd, fun base => ?_, F.kp, F.bindsN fun _ _ _ _ _ _ us hl => match us, hl with | [_], _ => rfl, fun s us hl => F.bindsA (fun _ _ _ _ _ _ us hl => match us, hl with | [_], _ => rfl) s us hl⟩
  have H_cal_is_known := ok_is_known XK GN D base (P := P) (w := w)
  refine yfn F sc_need_known rfl rfl fun cdv A outer s H E hr c tk hp => ?_
  exact (mss_cons (ms_if (mt_not (ytv (ycall H_cal_is_known hr tk (ycons (yv 0) (ma_nil))))) (mss_cons (ms_never) (mss_nil)) (mss_nil)) (mss_nil))
theorem ok_need_known (XK : K.In h) (GN : h.Ns mainGlobals mg) (D : He.SaysD fa fn K) (base : Heap) : Cal P w K mg base 3 "need_known" (sp_need_known K) := by
  obtain ⟨fd, h1, h2, h3, _⟩ := fn_need_known (P := P) (w := w) XK GN D
  exact ⟨_, fd, _, h1 base, He.glo_ok XK GN (D.fact 5 rfl), h2, h3⟩
theorem sc_is_loop : FnScope ["thing"] ["thing"] (defScope (top 11)) := ⟨rfl, rfl, rfl, by decide +kernel, rfl, by decide +kernel, by decide +kernel⟩
theorem fn_is_loop (XK : K.In h) (GN : h.Ns mainGlobals mg) (D : He.SaysD fa fn K) : ∃ fd, (∀ base : Heap, FnY P w K mg base 2 (He.fAd K ("is_loop", none)) fd ["thing"] (spOf (sp_is_loop K))) ∧ PySem.W.keepIn K (.ref (He.fAd K ("is_loop", none))) = true ∧ Binds K fd ["thing"] [] ∧ ∀ (s : Shared) (us : List Value), us.length = 1 → BindsTo s fd ⟨us, []⟩ ((["thing"] : List PySem.Str).zip us) := by
  obtain ⟨fd, F0⟩ := D.def_ 3 rfl
  have F : FunD K "is_loop" "is_loop" (defArgs (top 11)) (defBody (top 11)) (defScope (top 11)) [] [] (He.fAd K ("is_loop", none)) fd := F0
  refine ⟨fd, fun base => ?_, F.kp, F.bindsN fun _ _ _ _ _ _ us hl => match us, hl with | [_], _ => rfl, fun s us hl => F.bindsA (fun _ _ _ _ _ _ us hl => match us, hl with | [_], _ => rfl) s us hl⟩
  have H_cal_are_letters := ok_are_letters XK GN D base (P := P) (w := w)
  have H_free_len := He.free_ok XK GN (D.fact 42 rfl)
  have H_int_MOST_PLACES := He.int_ok XK GN (D.fact 36 rfl)
  refine yfn F sc_is_loop rfl rfl fun cdv A outer s H E hr c tk hp => ?_
  exact (mss_cons (ms_ret (me_and (ycall H_cal_are_letters hr tk (ycons (yv 0) (ma_nil))) (me_one (ychain opLe opLe (me_int) (ycb cd_len H_free_len (ycons (yv 0) (ma_nil))) (ygi H_int_MOST_PLACES))))) (mss_nil))
theorem ok_is_loop (XK : K.In h) (GN : h.Ns mainGlobals mg) (D : He.SaysD fa fn K) (base : Heap) : Cal P w K mg base 2 "is_loop" (sp_is_loop K) := by
  obtain ⟨fd, h1, h2, h3, _⟩ := fn_is_loop (P := P) (w := w) XK GN D
  exact ⟨_, fd, _, h1 base, He.glo_ok XK GN (D.fact 6 rfl), h2, h3⟩
theorem sc_need_loop : FnScope ["thing"] ["thing"] (defScope (top 12)) := ⟨rfl, rfl, rfl, by decide +kernel, rfl, by decide +kernel, by decide +kernel⟩
theorem fn_need_loop (XK : K.In h) (GN : h.Ns mainGlobals mg) (D : He.SaysD fa fn K) : ∃ fd, (∀ base : Heap, FnY P w K mg base 3 (He.fAd K ("need_loop", none)) fd ["thing"] (spOf (sp_need_loop K))) ∧ PySem.W.keepIn K (.ref (He.fAd K ("need_loop", none))) = true ∧ Binds K fd ["thing"] [] ∧ ∀ (s : Shared) (us : List Value), us.length = 1 → BindsTo s fd ⟨us, []⟩ ((["thing"] : List PySem.Str).zip us) := by
  obtain ⟨fd, F0⟩ := D.def_ 4 rfl
  have F : FunD K "need_loop" "need_loop" (defArgs (top 12)) (defBody (top 12)) (defScope (top 12)) [] [] (He.fAd K ("need_loop", none)) fd := F0
  refine ⟨fd, fun base => ?_, F.kp, F.bindsN fun _ _ _ _ _ _ us hl => match us, hl with | [_], _ => rfl, fun s us hl => F.bindsA (fun _ _ _ _ _ _ us hl => match us, hl with | [_], _ => rfl) s us hl⟩
  have H_cal_is_loop := ok_is_loop XK GN D base (P := P) (w := w)
  refine yfn F sc_need_loop rfl rfl fun cdv A outer s H E hr c tk hp => ?_
  exact (mss_cons (ms_if (mt_not (ytv (ycall H_cal_is_loop hr tk (ycons (yv 0) (ma_nil))))) (mss_cons (ms_never) (mss_nil)) (mss_nil)) (mss_nil))
theorem ok_need_loop (XK : K.In h) (GN : h.Ns mainGlobals mg) (D : He.SaysD fa fn K) (base : Heap) : Cal P w K mg base 3 "need_loop" (sp_need_loop K) := by
  obtain ⟨fd, h1, h2, h3, _⟩ := fn_need_loop (P := P) (w := w) XK GN D
  exact ⟨_, fd, _, h1 base, He.glo_ok XK GN (D.fact 7 rfl), h2, h3⟩
theorem sc_need_both : FnScope ["loop", "known"] ["loop", "known"] (defScope (top 19)) := ⟨rfl, rfl, rfl, by decide +kernel, rfl, by decide +kernel, by decide +kernel⟩
theorem fn_need_both (XK : K.In h) (GN : h.Ns mainGlobals mg) (D : He.SaysD fa fn K) : ∃ fd, (∀ base : Heap, FnY P w K mg base 4 (He.fAd K ("need_both", none)) fd ["loop", "known"] (spOf (sp_need_both K))) ∧ PySem.W.keepIn K (.ref (He.fAd K ("need_both", none))) = true ∧ Binds K fd ["loop", "known"] [] ∧ ∀ (s : Shared) (us : List Value), us.length = 2 → BindsTo s fd ⟨us, []⟩ ((["loop", "known"] : List PySem.Str).zip us) := by
  obtain ⟨fd, F0⟩ := D.def_ 13 rfl
  have F : FunD K "need_both" "need_both" (defArgs (top 19)) (defBody (top 19)) (defScope (top 19)) [] [] (He.fAd K ("need_both", none)) fd := F0
  refine ⟨fd, fun base => ?_, F.kp, F.bindsN fun _ _ _ _ _ _ us hl => match us, hl with | [_, _], _ => rfl, fun s us hl => F.bindsA (fun _ _ _ _ _ _ us hl => match us, hl with | [_, _], _ => rfl) s us hl⟩
  have H_cal_need_loop := ok_need_loop XK GN D base (P := P) (w := w)
  have H_cal_need_known := ok_need_known XK GN D base (P := P) (w := w)
  refine yfn F sc_need_both rfl rfl fun cdv A outer s H E hr c tk hp => ?_
  exact (mss_cons (yexpr (ycall H_cal_need_loop hr tk (ycons (yv 0) (ma_nil)))) (mss_cons (yexpr (ycall H_cal_need_known hr tk (ycons (yv 1) (ma_nil)))) (mss_nil)))
theorem ok_need_both (XK : K.In h) (GN : h.Ns mainGlobals mg) (D : He.SaysD fa fn K) (base : Heap) : Cal P w K mg base 4 "need_both" (sp_need_both K) := by
  obtain ⟨fd, h1, h2, h3, _⟩ := fn_need_both (P := P) (w := w) XK GN D
  exact ⟨_, fd, _, h1 base, He.glo_ok XK GN (D.fact 23 rfl), h2, h3⟩
theorem sc_grown : FnScope ["loop", "known", "found"] ["loop", "known"] (defScope (top 20)) := ⟨rfl, rfl, rfl, by decide +kernel, rfl, by decide +kernel, by decide +kernel⟩
theorem fn_grown (XK : K.In h) (GN : h.Ns mainGlobals mg) (D : He.SaysD fa fn K) : ∃ fd, (∀ base : Heap, FnY P w K mg base 5 (He.fAd K ("grown", none)) fd ["loop", "known"] (spOf (sp_grown K))) ∧ PySem.W.keepIn K (.ref (He.fAd K ("grown", none))) = true ∧ Binds K fd ["loop", "known"] [] ∧ ∀ (s : Shared) (us : List Value), us.length = 2 → BindsTo s fd ⟨us, []⟩ ((["loop", "known"] : List PySem.Str).zip us) := by
  obtain ⟨fd, F0⟩ := D.def_ 14 rfl
  have F : FunD K "grown" "grown" (defArgs (top 20)) (defBody (top 20)) (defScope (top 20)) [] [] (He.fAd K ("grown", none)) fd := F0
  refine ⟨fd, fun base => ?_, F.kp, F.bindsN fun _ _ _ _ _ _ us hl => match us, hl with | [_, _], _ => rfl, fun s us hl => F.bindsA (fun _ _ _ _ _ _ us hl => match us, hl with | [_, _], _ => rfl) s us hl⟩
  have H_cal_need_both := ok_need_both XK GN D base (P := P) (w := w)
  have H_mak_Growing := mk_Growing XK GN D base (P := P) (w := w)
  have H_clm_Growing_read_on_till_grown := ok_Growing_read_on_till_grown XK GN D base (P := P) (w := w)
  refine yfn F sc_grown rfl rfl fun cdv A outer s H E hr c tk hp => ?_
  exact (mss_cons (yexpr (ycall H_cal_need_both hr tk (ycons (yv 0) (ycons (yv 1) (ma_nil))))) (mss_cons (yset c (ymake H_mak_Growing hr tk (ycons (yv 0) (ycons (yv 1) (ma_nil))))) (mss_cons (yexpr (ymeth0 H_clm_Growing_read_on_till_grown hr tk (yv 2))) (mss_cons (ms_ret (yv 2)) (mss_nil)))))
theorem ok_grown (XK : K.In h) (GN : h.Ns mainGlobals mg) (D : He.SaysD fa fn K) (base : Heap) : Cal P w K mg base 5 "grown" (sp_grown K) := by
  obtain ⟨fd, h1, h2, h3, _⟩ := fn_grown (P := P) (w := w) XK GN D
  exact ⟨_, fd, _, h1 base, He.glo_ok XK GN (D.fact 24 rfl), h2, h3⟩
theorem sc_coder_then : FnScope ["loop", "known", "found"] ["loop", "known"] (defScope (top 22)) := ⟨rfl, rfl, rfl, by decide +kernel, rfl, by decide +kernel, by decide +kernel⟩
theorem fn_coder_then (XK : K.In h) (GN : h.Ns mainGlobals mg) (D : He.SaysD fa fn K) : ∃ fd, (∀ base : Heap, FnY P w K mg base 6 (He.fAd K ("coder_then", none)) fd ["loop", "known"] (spOf (sp_coder_then K))) ∧ PySem.W.keepIn K (.ref (He.fAd K ("coder_then", none))) = true ∧ Binds K fd ["loop", "known"] [] ∧ ∀ (s : Shared) (us : List Value), us.length = 2 → BindsTo s fd ⟨us, []⟩ ((["loop", "known"] : List PySem.Str).zip us) := by
  obtain ⟨fd, F0⟩ := D.def_ 16 rfl
  have F : FunD K "coder_then" "coder_then" (defArgs (top 22)) (defBody (top 22)) (defScope (top 22)) [] [] (He.fAd K ("coder_then", none)) fd := F0
  refine ⟨fd, fun base => ?_, F.kp, F.bindsN fun _ _ _ _ _ _ us hl => match us, hl with | [_, _], _ => rfl, fun s us hl => F.bindsA (fun _ _ _ _ _ _ us hl => match us, hl with | [_, _], _ => rfl) s us hl⟩
  have H_cal_grown := ok_grown XK GN D base (P := P) (w := w)
  have H_cls_Growing := He.cls_ok (D.fact 12 rfl)
  have H_noat_Growing_spot := He.noat_ok (D.fact 17 rfl)
  have H_clm_Growing_all_lengths := ok_Growing_all_lengths XK GN D base (P := P) (w := w)
  refine yfn F sc_coder_then rfl rfl fun cdv A outer s H E hr c tk hp => ?_
  exact (mss_cons (yset c (ycall H_cal_grown hr tk (ycons (yv 0) (ycons (yv 1) (ma_nil))))) (mss_cons (ms_ret (me_tup (ycons (yfld (yv 2) H_cls_Growing H_noat_Growing_spot) (ycons (ymeth0 H_clm_Growing_all_lengths hr tk (yv 2)) (ma_nil))))) (mss_nil)))
theorem ok_coder_then (XK : K.In h) (GN : h.Ns mainGlobals mg) (D : He.SaysD fa fn K) (base : Heap) : Cal P w K mg base 6 "coder_then" (sp_coder_then K) := by
  obtain ⟨fd, h1, h2, h3, _⟩ := fn_coder_then (P := P) (w := w) XK GN D
  exact ⟨_, fd, _, h1 base, He.glo_ok XK GN (D.fact 26 rfl), h2, h3⟩
theorem sc_grown_by : FnScope ["loop", "known"] ["loop", "known"] (defScope (top 21)) := ⟨rfl, rfl, rfl, by decide +kernel, rfl, by decide +kernel, by decide +kernel⟩
theorem fn_grown_by (XK : K.In h) (GN : h.Ns mainGlobals mg) (D : He.SaysD fa fn K) : ∃ fd, (∀ base : Heap, FnY P w K mg base 6 (He.fAd K ("grown_by", none)) fd ["loop", "known"] (spOf (sp_grown_by K))) ∧ PySem.W.keepIn K (.ref (He.fAd K ("grown_by", none))) = true ∧ Binds K fd ["loop", "known"] [] ∧ ∀ (s : Shared) (us : List Value), us.length = 2 → BindsTo s fd ⟨us, []⟩ ((["loop", "known"] : List PySem.Str).zip us) := by
  obtain ⟨fd, F0⟩ := D.def_ 15 rfl
  have F : FunD K "grown_by" "grown_by" (defArgs (top 21)) (defBody (top 21)) (defScope (top 21)) [] [] (He.fAd K ("grown_by", none)) fd := F0
  refine ⟨fd, fun base => ?_, F.kp, F.bindsN fun _ _ _ _ _ _ us hl => match us, hl with | [_, _], _ => rfl, fun s us hl => F.bindsA (fun _ _ _ _ _ _ us hl => match us, hl with | [_, _], _ => rfl) s us hl⟩
  have H_cal_grown := ok_grown XK GN D base (P := P) (w := w)
  have H_cls_Growing := He.cls_ok (D.fact 12 rfl)
  have H_noat_Growing_new_words := He.noat_ok (D.fact 18 rfl)
  have H_free_len := He.free_ok XK GN (D.fact 42 rfl)
  refine yfn F sc_grown_by rfl rfl fun cdv A outer s H E hr c tk hp => ?_
  exact (mss_cons (ms_ret (ycb cd_len H_free_len (ycons (yfld (ycall H_cal_grown hr tk (ycons (yv 0) (ycons (yv 1) (ma_nil)))) H_cls_Growing H_noat_Growing_new_words) (ma_nil)))) (mss_nil))
theorem ok_grown_by (XK : K.In h) (GN : h.Ns mainGlobals mg) (D : He.SaysD fa fn K) (base : Heap) : Cal P w K mg base 6 "grown_by" (sp_grown_by K) := by
  obtain ⟨fd, h1, h2, h3, _⟩ := fn_grown_by (P := P) (w := w) XK GN D
  exact ⟨_, fd, _, h1 base, He.glo_ok XK GN (D.fact 25 rfl), h2, h3⟩
theorem sc__law_right : FnScope ["loop", "known", "base", "size", "due", "found", "there", "place", "lengths", "long", "word", "spot"] ["loop", "known"] (defScope (top 30)) := ⟨rfl, rfl, rfl, by decide +kernel, rfl, by decide +kernel, by decide +kernel⟩
theorem fn__law_right (XK : K.In h) (GN : h.Ns mainGlobals mg) (D : He.SaysD fa fn K) : ∃ fd, (∀ base : Heap, FnY P w K mg base 7 (He.fAd K ("_law_right", none)) fd ["loop", "known"] (spOf (sp__law_right K))) ∧ PySem.W.keepIn K (.ref (He.fAd K ("_law_right", none))) = true ∧ Binds K fd ["loop", "known"] [] ∧ ∀ (s : Shared) (us : List Value), us.length = 2 → BindsTo s fd ⟨us, []⟩ ((["loop", "known"] : List PySem.Str).zip us) := by
  obtain ⟨fd, F0⟩ := D.def_ 23 rfl
  have F : FunD K "_law_right" "_law_right" (defArgs (top 30)) (defBody (top 30)) (defScope (top 30)) [] [] (He.fAd K ("_law_right", none)) fd := F0
  refine ⟨fd, fun base => ?_, F.kp, F.bindsN fun _ _ _ _ _ _ us hl => match us, hl with | [_, _], _ => rfl, fun s us hl => F.bindsA (fun _ _ _ _ _ _ us hl => match us, hl with | [_, _], _ => rfl) s us hl⟩
  have H_cal__law_base := ok__law_base XK GN D base (P := P) (w := w)
  have H_free_len := He.free_ok XK GN (D.fact 42 rfl)
  have H_free_dict := He.free_ok XK GN (D.fact 39 rfl)
  have H_free_range := He.free_ok XK GN (D.fact 45 rfl)
  have H_cal__law_longest := ok__law_longest XK GN D base (P := P) (w := w)
  have H_free_min := He.free_ok XK GN (D.fact 44 rfl)
  have H_free_tuple := He.free_ok XK GN (D.fact 49 rfl)
  have H_cal_grown_by := ok_grown_by XK GN D base (P := P) (w := w)
  have H_cal_coder_then := ok_coder_then XK GN D base (P := P) (w := w)
  have H_free_repr := He.free_ok XK GN (D.fact 46 rfl)
  refine yfn F sc__law_right rfl rfl fun cdv A outer s H E hr c tk hp => ?_
  exact (mss_cons (yset c (ycall H_cal__law_base hr tk (ycons (yv 0) (ma_nil)))) (mss_cons (yset c (ycb cd_len H_free_len (ycons (yv 2) (ma_nil)))) (mss_cons (yset c (me_non)) (mss_cons (yasg (me_tup (ycons (me_lstM (ma_nil)) (ycons (yct (cd_dictP c.calm) H_free_dict (ycons (ylc (own := [("word", 10)]) c (mi_row (yv 1)) (fun _ _ _ _ _ => ypg1 c.blk) (fun _ _ _ _ _ => mts_nil) (fun _ _ _ _ _ => me_tup (ycons (yv 10) (ycons (me_bl) (ma_nil))))) (ma_nil))) (ma_nil)))) (ytg2 c (ynat (ynat (NamesAt.nil))))) (mss_cons (yset c (me_int)) (mss_cons (ms_while hp (ytcmp opIs (yv 4) (me_non)) (mss_cons (ysetLc (own := [("spot", 11)]) c (yrg1 H_free_range (yv 3)) (fun _ _ _ _ _ => ypg1 c.blk) (fun _ _ _ _ _ => mts_nil) (fun _ _ _ _ _ => ycall H_cal__law_longest hr takes0 (ycons (yv 2) (ycons (yv 6) (ycons (yv 11) (ma_nil)))))) (mss_cons (ms_if (ytcmp opGe (ycb (cd_min1 c.calm c.hu) H_free_min (ycons (yv 8) (ma_nil))) (me_op opSub (yv 3) (me_int))) (mss_cons (yset c (me_tup (ycons (yv 7) (ycons (yct cd_tup H_free_tuple (ycons (yv 8) (ma_nil))) (ma_nil))))) (mss_nil)) (mss_cons (yset c (me_op opAdd (yix c (yv 8) (yv 7)) (me_int))) (mss_cons (yset c (me_sl (me_op opMul (yv 2) (me_op opAdd (me_op opDiv (yv 9) (yv 3)) (me_int))) (mo_some (yv 7)) (mo_some (me_op opAdd (yv 7) (yv 9))))) (mss_cons (yasg (me_bl) (ysub c (yv 6) (yv 10))) (mss_cons (yexpr (ybm PySem.F.plainAttrs_list PySem.F.slot_list_append PySem.F.type_list_append mtd_append (yv 5) (ycons (yv 10) (ma_nil)))) (mss_cons (yset c (me_op opMod (me_op opAdd (yv 7) (yv 9)) (yv 3))) (mss_nil))))))) (mss_nil)))) (mss_cons (ms_ret (ycmp (opEq c.hu) (ycb (cd_repr c.hu c.gd) H_free_repr (ycons (me_lst (ycons (ycall H_cal_grown_by hr tk (ycons (yv 0) (ycons (yv 1) (ma_nil)))) (ycons (ycall H_cal_coder_then hr tk (ycons (yv 0) (ycons (yv 1) (ma_nil)))) (ma_nil)))) (ma_nil))) (ycb (cd_repr c.hu c.gd) H_free_repr (ycons (me_lst (ycons (ycb cd_len H_free_len (ycons (yv 5) (ma_nil))) (ycons (yv 4) (ma_nil)))) (ma_nil))))) (mss_nil))))))))
theorem ok__law_right (XK : K.In h) (GN : h.Ns mainGlobals mg) (D : He.SaysD fa fn K) (base : Heap) : Cal P w K mg base 7 "_law_right" (sp__law_right K) := by
  obtain ⟨fd, h1, h2, h3, _⟩ := fn__law_right (P := P) (w := w) XK GN D
  exact ⟨_, fd, _, h1 base, He.glo_ok XK GN (D.fact 33 rfl), h2, h3⟩
theorem sc_law : FnScope ["script", "k", "pot", "turn", "loop"] ["script"] (defScope (top 31)) := ⟨rfl, rfl, rfl, by decide +kernel, rfl, by decide +kernel, by decide +kernel⟩
theorem fn_law (XK : K.In h) (GN : h.Ns mainGlobals mg) (D : He.SaysD fa fn K) : ∃ fd, (∀ base : Heap, FnY P w K mg base 8 (He.fAd K ("law", none)) fd ["script"] (spOf (sp_law K))) ∧ PySem.W.keepIn K (.ref (He.fAd K ("law", none))) = true ∧ Binds K fd ["script"] [] ∧ ∀ (s : Shared) (us : List Value), us.length = 1 → BindsTo s fd ⟨us, []⟩ ((["script"] : List PySem.Str).zip us) := by
  obtain ⟨fd, F0⟩ := D.def_ 24 rfl
  have F : FunD K "law" "law" (defArgs (top 31)) (defBody (top 31)) (defScope (top 31)) [] [] (He.fAd K ("law", none)) fd := F0
  refine ⟨fd, fun base => ?_, F.kp, F.bindsN fun _ _ _ _ _ _ us hl => match us, hl with | [_], _ => rfl, fun s us hl => F.bindsA (fun _ _ _ _ _ _ us hl => match us, hl with | [_], _ => rfl) s us hl⟩
  have H_free_range := He.free_ok XK GN (D.fact 45 rfl)
  have H_free_len := He.free_ok XK GN (D.fact 42 rfl)
  have H_free_min := He.free_ok XK GN (D.fact 44 rfl)
  have H_free_max := He.free_ok XK GN (D.fact 43 rfl)
  have H_cal__law_pot := ok__law_pot XK GN D base (P := P) (w := w)
  have H_cal__law_loop := ok__law_loop XK GN D base (P := P) (w := w)
  have H_cal__law_known := ok__law_known XK GN D base (P := P) (w := w)
  have H_cal__law_right := ok__law_right XK GN D base (P := P) (w := w)
  refine yfn F sc_law rfl rfl fun cdv A outer s H E hr c tk hp => ?_
  exact (mss_cons (yfor hp c (yrg1 H_free_range (ycb (cd_max2 c.calm) H_free_max (ycons (me_int) (ycons (ycb (cd_min2 c.calm) H_free_min (ycons (me_int) (ycons (ycb cd_len H_free_len (ycons (yv 0) (ma_nil))) (ma_nil)))) (ma_nil))))) (ytg1 c) (mss_cons (yset c (ycall H_cal__law_pot hr tk (ycons (yv 0) (ycons (yv 1) (ma_nil))))) (mss_cons (yfor hp c (yrg1 H_free_range (me_int)) (ytg1 c) (mss_cons (yset c (ycall H_cal__law_loop hr tk (ycons (yv 2) (ma_nil)))) (mss_cons (ms_if (mt_not (ytv (ycall H_cal__law_right hr tk (ycons (yv 4) (ycons (ycall H_cal__law_known hr tk (ycons (yv 2) (ycons (yv 4) (ma_nil)))) (ma_nil)))))) (mss_cons (ms_ret (me_bl)) (mss_nil)) (mss_nil)) (mss_nil)))) (mss_nil)))) (mss_cons (ms_ret (me_and (ycall H_cal__law_right hr tk (ycons (me_op opAdd (me_op opMul (ystr) (me_int)) (ystr)) (ycons (me_tup (ma_nil)) (ma_nil)))) (me_one (ycall H_cal__law_right hr tk (ycons (ystr) (ycons (me_tup (ycons (ystr) (ma_nil))) (ma_nil))))))) (mss_nil)))
theorem ok_law (XK : K.In h) (GN : h.Ns mainGlobals mg) (D : He.SaysD fa fn K) (base : Heap) : Cal P w K mg base 8 "law" (sp_law K) := by
  obtain ⟨fd, h1, h2, h3, _⟩ := fn_law (P := P) (w := w) XK GN D
  exact ⟨_, fd, _, h1 base, He.glo_ok XK GN (D.fact 34 rfl), h2, h3⟩
end
/-! ### the head -/
theorem run (w : World) : HandSHeadRun.RunEq R (PySem.W.view R.prog [31]) hk ob 4000 loose w := by
  intro os
  kernel_rfl
open PySem PySem.W PySem.Calls PyProof.Rows in
theorem ends (hlaw : ∀ (K : PySem.W.Frag) (ns : List Int), ns.length ≤ 63 → (∀ z ∈ ns, Builtin.Int.intBits z ≤ 1048576) → sp_law K [.scr ns] (fun _ => none) (fun _ _ => False) fun d _ => d = .bl true) : PySem.Challenge.rw_looplearn_k44_loops_till_grown.Holds := by
  w_on; o_law
  refine HandSHeadRun.head_any (r := OpenLaw.row PySem.Challenge.rw_looplearn_k44_loops_till_grown) (q := view (OpenLaw.row PySem.Challenge.rw_looplearn_k44_loops_till_grown).prog [31]) (H := hk) (ob := ob) (M := 4000) (loose := loose) (d := HandSHeadRun.topDef (OpenLaw.row PySem.Challenge.rw_looplearn_k44_loops_till_grown).prog 31) (kwd := []) ob_eq
    (by kernel_rfl) (fun s => by kernel_rfl) run (by kernel_rfl) (by kernel_rfl) (by kernel_rfl) (by rfl) (by first | assumption | decide +kernel) (by decide +kernel) ⟨rfl, rfl, rfl, rfl, rfl, by decide +kernel⟩ ?hw ?hc
  case hw => w_witness2
  case hc =>
    refine Y.walk_end (l := PySem.Challenge.rw_looplearn_k44_loops_till_grown) (n := 63) (k := 8) (x := "script") (fa := fa) (fn := fn) rfl (by decide) (by kernel_rfl) ⟨⟨rfl, by decide, by decide⟩, rfl⟩ (fun _ _ y => y) ?F
    intro w mg h K fa' XK GN D hmg0
    have hmg : mg ("law" : PySem.Str) = some (.ref fa') := by
      have e : (HandSHeadRun.topDef (OpenLaw.row PySem.Challenge.rw_looplearn_k44_loops_till_grown).prog 31).name = ("law" : PySem.Str) := by kernel_rfl
      rw [← e]
      exact hmg0
    have e := hmg.symm.trans (He.glo_ok XK GN (D.fact 34 (f := .glo "law") rfl))
    cases e
    obtain ⟨fd, h1, _, _, hb⟩ := fn_law (P := (PySem.Challenge.rw_looplearn_k44_loops_till_grown).prog) (w := w) XK GN D
    exact ⟨fd, sp_law K, fun s u => hb s [u] rfl, fun ns h1 h2 => hlaw K ns h1 h2, h1⟩
end Wk
/-! Q1: words, loops: what the program's functions tell. -/
namespace Wk
open PySem PySem.Spec PyProof.Rows L2 Y Mw
variable {K : PySem.W.Frag} {G : Gp} {ex : DX} {Q : DK}

theorem rep_eq {k : Nat} {l : List Nat} : rep k l = repN k l := rfl
/-! ### root_of -/
theorem root_of_ok {l : List Nat} {d : Nat} (hl : l.length ≤ 1000) (hd : d ≤ l.length) (hr : IsRoot l d) (q : Q (.str (l.take d)) G) : sp_root_of K [.str l] G ex Q := by
  simp only [sp_root_of, r_root_of, ini, nones, fnD, dSeq, dNext, dAsg, dAug, dDrop, dRet, dRetN, dIfS, dCB, dBM, dBM0, dCall, dMeth, dMake, dCons, dNil, dVar, slot, dC, dUn, dOp, dTest, dChain, dAnd, dOr, dNot, dAndV, dOrV, dNotV, dIf, dTup, dLst, dLstM, dPar, dDicNew, dSl, dSlM, dNoPart, dPart, dFld, dFldS, gName', gSub', gTup', gNames, tyD, List.map_cons, List.map_nil, List.replicate, List.cons_append, List.nil_append, List.length_cons, List.length_nil, List.set, e_add_int, e_add_str, e_add_tup, e_add_lst, e_iadd_int, e_iadd_str, e_sub, e_neg, e_mod, e_div, e_pow, e_mul_int, e_mul_str, e_mul_lst, e_mul_tup, e_lt_int, e_le_int, e_gt_int, e_ge_int, e_lt_str, e_eq_int, e_eq_str, e_ne_int, e_ne_str, e_in, e_notin, e_ix_str, e_ix_tup, e_ix_lst, e_ix_scr, e_sl_str, e_sl_tup, e_sl_lst, e_int_bl, e_int_int, e_max2, e_min2, oIs, oIsNot, true_and, and_true, Nat.zero_add, ↓reduceIte, Option.some.injEq, List.cons.injEq, D.str.injEq, D.int.injEq, D.bl.injEq, D.ref.injEq, exists_eq_left', exists_and_left, exists_eq_left, cLen, dRng2, dComp, oIx]
  refine ⟨l.length, rfl, by omega, by omega, ?_⟩
  refine turns_pure (p := fun x => match x with
    | .int i => decide (Per l i.toNat)
    | _ => false) (f := fun x => match x with
    | .int i => .str (l.take i.toNat)
    | _ => .non) (fun x hx T Fs hT hF => ?_) (by rw [numsFrom_len, List.length_nil]; omega) ?_
  · obtain ⟨i, hi, rfl⟩ := numsFrom_mem hx
    have e : (1 + (i : Int)).toNat = i + 1 := by omega
    have hi' : i + 1 ≤ l.length := by omega
    simp only [e] at hT hF
    simp only [TK.d, dwipe, ini, nones, fnD, dSeq, dNext, dAsg, dAug, dDrop, dRet, dRetN, dIfS, dCB, dBM, dBM0, dCall, dMeth, dMake, dCons, dNil, dVar, slot, dC, dUn, dOp, dTest, dChain, dAnd, dOr, dNot, dAndV, dOrV, dNotV, dIf, dTup, dLst, dLstM, dPar, dDicNew, dSl, dSlM, dNoPart, dPart, dFld, dFldS, gName', gSub', gTup', gNames, tyD, List.map_cons, List.map_nil, List.replicate, List.cons_append, List.nil_append, List.length_cons, List.length_nil, List.set, e_add_int, e_add_str, e_add_tup, e_add_lst, e_iadd_int, e_iadd_str, e_sub, e_neg, e_mod, e_div, e_pow, e_mul_int, e_mul_str, e_mul_lst, e_mul_tup, e_lt_int, e_le_int, e_gt_int, e_ge_int, e_lt_str, e_eq_int, e_eq_str, e_ne_int, e_ne_str, e_in, e_notin, e_ix_str, e_ix_tup, e_ix_lst, e_ix_scr, e_sl_str, e_sl_tup, e_sl_lst, e_int_bl, e_int_int, e_max2, e_min2, oIs, oIsNot, true_and, and_true, Nat.zero_add, ↓reduceIte, Option.some.injEq, List.cons.injEq, D.str.injEq, D.int.injEq, D.bl.injEq, D.ref.injEq, exists_eq_left', exists_and_left, exists_eq_left, oSl, oMul, oEq]
    have e3 : ((l.length : Int) / (1 + (i : Int))).toNat = l.length / (i + 1) := by
      have : ((l.length : Int) / ((i + 1 : Nat) : Int)) = ((l.length / (i + 1) : Nat) : Int) := Int.natCast_ediv .. |>.symm
      rw [show (1 + (i : Int)) = ((i + 1 : Nat) : Int) by omega, this]
      rfl
    have e4 : l.length / (i + 1) ≤ l.length := Nat.div_le_self ..
    have e5 : ((l.length : Int) / (1 + (i : Int))) < 1000000 := by
      have := Int.ediv_le_self (1 + (i : Int)) (show (0 : Int) ≤ (l.length : Int) by omega)
      omega
    have e6 : (0 : Int) ≤ ((l.length : Int) / (1 + (i : Int))) := Int.ediv_nonneg (by omega) (by omega)
    have e7 : (cutL l none (some (1 + (i : Int)))) = l.take (i + 1) := by rw [cut_to (by omega), e]
    have e8 : (l.take (i + 1)).length ≤ l.length := by rw [List.length_take]; omega
    rw [e7, e3]
    have e9 : (l.take (i + 1)).length * (l.length / (i + 1)) ≤ 1000 * 1000 := Nat.mul_le_mul (by omega) (by omega)
    refine ⟨by omega, ⟨⟨by omega, by unfold BB; omega⟩, ⟨⟨e5, by omega, by omega⟩, ?_⟩⟩⟩
    rw [rep_eq, decide_eq_decide.mpr (per_iff_rep (l := l) (d := i + 1) (by omega) hi')]
    cases b : decide (Per l (i + 1)) with
    | true => exact ⟨by omega, hT b⟩
    | false => exact hF b
  · rw [List.nil_append]
    refine ⟨.str (l.take d), atI_0 ?_, q⟩
    rw [List.getElem?_map]
    have h0 := hr.1.1
    have hx : (numsFrom 1 ((l.length : Int) + 1 - 1).toNat)[d - 1]? = some (.int (d : Int)) := by
      rw [numsFrom_get (by omega)]
      congr 2
      omega
    have hf := find_first (p := fun x => match x with
      | D.int i => decide (Per l i.toNat)
      | _ => false) hx (decide_eq_true hr.1) fun j y hj hy => by
        rw [numsFrom_get (by omega)] at hy
        cases hy
        refine decide_eq_false ?_
        rw [show (1 + (j : Int)).toNat = j + 1 by omega]
        exact hr.2 (j + 1) (by omega)
    have hh : ∀ (xs : List D) (p : D → Bool), (xs.filter p)[0]? = xs.find? p := fun xs p => by rw [← List.head?_eq_getElem?, List.head?_filter]
    rw [hh, hf]
    rfl
/-! ### longest_on -/
/-- what is in a container of texts -/
def Has (G : Gp) (d : D) (S : List Nat → Bool) : Prop := ∀ (w : List Nat) (Q : Bool → Prop), Q (S w) → oInB (.str w) d G Q
theorem has_dic {p : Addr} {kvs : List (DKey × D)} (h : G p = some (.dic kvs)) : Has G (.ref p) (fun w => (dlook kvs (.inr w)).isSome) := fun w Q q => inB_dic h q
theorem longest_on_ok {b : List Nat} {kn : D} {i L : Nat} {S : List Nat → Bool} (hb : b.length ≤ 1000) (hS : Has G kn S) (hi : i < b.length) (hL : IsLg S b i L) (hl : L < 1000000) (q : Q (.int L) G) : sp_longest_on K [.str b, kn, .int i] G ex Q := by
  simp only [sp_longest_on, r_longest_on, ini, nones, fnD, dSeq, dNext, dAsg, dAug, dDrop, dRet, dRetN, dIfS, dCB, dBM, dBM0, dCall, dMeth, dMake, dCons, dNil, dVar, slot, dC, dUn, dOp, dTest, dChain, dAnd, dOr, dNot, dAndV, dOrV, dNotV, dIf, dTup, dLst, dLstM, dPar, dDicNew, dSl, dSlM, dNoPart, dPart, dFld, dFldS, gName', gSub', gTup', gNames, tyD, List.map_cons, List.map_nil, List.replicate, List.cons_append, List.nil_append, List.length_cons, List.length_nil, List.set, e_add_int, e_add_str, e_add_tup, e_add_lst, e_iadd_int, e_iadd_str, e_sub, e_neg, e_mod, e_div, e_pow, e_mul_int, e_mul_str, e_mul_lst, e_mul_tup, e_lt_int, e_le_int, e_gt_int, e_ge_int, e_lt_str, e_eq_int, e_eq_str, e_ne_int, e_ne_str, e_in, e_notin, e_ix_str, e_ix_tup, e_ix_lst, e_ix_scr, e_sl_str, e_sl_tup, e_sl_lst, e_int_bl, e_int_int, e_max2, e_min2, oIs, oIsNot, true_and, and_true, Nat.zero_add, ↓reduceIte, Option.some.injEq, List.cons.injEq, D.str.injEq, D.int.injEq, D.bl.injEq, D.ref.injEq, exists_eq_left', exists_and_left, exists_eq_left, oIx]
  refine ⟨by omega, b.getD i 0, by rw [atI_n (getD_get hi)], ?_⟩
  have w1 : [b.getD i 0] = wd b i 1 := by
    unfold wd
    rw [List.range_one, List.map_singleton, Nat.add_zero, Nat.mod_eq_of_lt hi]
  rw [w1]
  refine ⟨fun m σ' G' => ∃ l, l + m = L ∧ σ' = [some (.str b), some kn, some (.int i), some (.str (wd b i (l + 1)))] ∧ G' = G, ⟨L, 0, by omega, rfl, rfl⟩, ?_⟩
  rintro m σ' G' ⟨l, hlm, rfl, rfl⟩
  simp only [ini, nones, fnD, dSeq, dNext, dAsg, dAug, dDrop, dRet, dRetN, dIfS, dCB, dBM, dBM0, dCall, dMeth, dMake, dCons, dNil, dVar, slot, dC, dUn, dOp, dTest, dChain, dAnd, dOr, dNot, dAndV, dOrV, dNotV, dIf, dTup, dLst, dLstM, dPar, dDicNew, dSl, dSlM, dNoPart, dPart, dFld, dFldS, gName', gSub', gTup', gNames, tyD, List.map_cons, List.map_nil, List.replicate, List.cons_append, List.nil_append, List.length_cons, List.length_nil, List.set, e_add_int, e_add_str, e_add_tup, e_add_lst, e_iadd_int, e_iadd_str, e_sub, e_neg, e_mod, e_div, e_pow, e_mul_int, e_mul_str, e_mul_lst, e_mul_tup, e_lt_int, e_le_int, e_gt_int, e_ge_int, e_lt_str, e_eq_int, e_eq_str, e_ne_int, e_ne_str, e_in, e_notin, e_ix_str, e_ix_tup, e_ix_lst, e_ix_scr, e_sl_str, e_sl_tup, e_sl_lst, e_int_bl, e_int_int, e_max2, e_min2, oIs, oIsNot, true_and, and_true, Nat.zero_add, ↓reduceIte, Option.some.injEq, List.cons.injEq, D.str.injEq, D.int.injEq, D.bl.injEq, D.ref.injEq, exists_eq_left', exists_and_left, exists_eq_left, cLen, oIx]
  refine hS _ _ ?_
  by_cases hlL : l < L
  · rw [hL.1 l hlL]
    refine ⟨wd b i (l + 1) |>.length, rfl, by rw [wd_len]; omega, ⟨b.length, rfl, by omega, by omega, by omega, ?_⟩⟩
    rw [wd_len]
    have e : ((i : Int) + ((l + 1 : Nat) : Int)) % (b.length : Int) = (((i + (l + 1)) % b.length : Nat) : Int) := by
      rw [← Int.natCast_add, ← Int.natCast_emod]
    refine ⟨b.getD ((i + (l + 1)) % b.length) 0, ?_, ?_, ?_⟩
    · rw [e, atI_n (getD_get (Nat.mod_lt _ (by omega)))]
    · omega
    · refine ⟨G', Le.refl, m - 1, by omega, l + 1, by omega, ?_, rfl⟩
      rw [wd_succ (l := l + 1)]
  · have e : l = L := by omega
    subst e
    rw [hL.2]
    refine ⟨(wd b i (l + 1)).length, rfl, by rw [wd_len]; omega, ?_⟩
    rw [wd_len]
    have e2 : (((l + 1 : Nat) : Int) - 1) = (l : Int) := by omega
    rw [e2]
    exact q
/-! ### spelled -/
theorem spelled_ok {b : List Nat} {i l : Nat} (hb : b.length ≤ 1000) (hi : i < b.length) (hl : l < 100000) (q : Q (.str (wd b i l)) G) : sp_spelled K [.str b, .int i, .int l] G ex Q := by
  simp only [sp_spelled, r_spelled, ini, nones, fnD, dSeq, dNext, dAsg, dAug, dDrop, dRet, dRetN, dIfS, dCB, dBM, dBM0, dCall, dMeth, dMake, dCons, dNil, dVar, slot, dC, dUn, dOp, dTest, dChain, dAnd, dOr, dNot, dAndV, dOrV, dNotV, dIf, dTup, dLst, dLstM, dPar, dDicNew, dSl, dSlM, dNoPart, dPart, dFld, dFldS, gName', gSub', gTup', gNames, tyD, List.map_cons, List.map_nil, List.replicate, List.cons_append, List.nil_append, List.length_cons, List.length_nil, List.set, e_add_int, e_add_str, e_add_tup, e_add_lst, e_iadd_int, e_iadd_str, e_sub, e_neg, e_mod, e_div, e_pow, e_mul_int, e_mul_str, e_mul_lst, e_mul_tup, e_lt_int, e_le_int, e_gt_int, e_ge_int, e_lt_str, e_eq_int, e_eq_str, e_ne_int, e_ne_str, e_in, e_notin, e_ix_str, e_ix_tup, e_ix_lst, e_ix_scr, e_sl_str, e_sl_tup, e_sl_lst, e_int_bl, e_int_int, e_max2, e_min2, oIs, oIsNot, true_and, and_true, Nat.zero_add, ↓reduceIte, Option.some.injEq, List.cons.injEq, D.str.injEq, D.int.injEq, D.bl.injEq, D.ref.injEq, exists_eq_left', exists_and_left, exists_eq_left, cLen, oMul]
  have hn : 0 < b.length := by omega
  have e : ((l : Int) / (b.length : Int)) = ((l / b.length : Nat) : Int) := (Int.natCast_ediv ..).symm
  have e1 : l / b.length ≤ l := Nat.div_le_self ..
  have e2 : b.length * (l / b.length) ≤ l := Nat.mul_div_le ..
  have e3 : (((l / b.length : Nat) : Int) + 2).toNat = l / b.length + 2 := by generalize l / b.length = z; omega
  refine ⟨b.length, rfl, by omega, ⟨by omega, by unfold BB; omega⟩, ?_⟩
  rw [e, e3]
  have e8 : b.length * (l / b.length + 2) = b.length * (l / b.length) + b.length * 2 := Nat.mul_add ..
  refine ⟨⟨?_, by omega, ?_⟩, ?_⟩
  · generalize l / b.length = z at e1 ⊢; omega
  · generalize l / b.length = z at e1 ⊢; omega
  refine ⟨by rw [rep_len, Nat.mul_comm]; omega, ?_⟩
  rw [cut_part (by omega) (by omega)]
  have e4 : ((rep (l / b.length + 2) b).drop (i : Int).toNat).take ((i : Int) + (l : Int)).toNat = ((rep (l / b.length + 2) b).drop (i : Int).toNat).take ((i : Int) + (l : Int)).toNat := rfl
  have e5 : ((rep (l / b.length + 2) b).drop (i : Int).toNat).take (((i : Int) + (l : Int)).toNat - (i : Int).toNat) = wd b i l := by
    have d1 := Nat.div_add_mod l b.length
    have d2 := Nat.mod_lt l hn
    have d3 : (repN (l / b.length + 2) b).length = b.length * (l / b.length) + 2 * b.length := by rw [repN_len, Nat.add_mul, Nat.mul_comm]
    have t1 : ((i : Int) + (l : Int)).toNat - (i : Int).toNat = l := by omega
    rw [t1, Int.toNat_natCast, rep_eq]
    refine ext_getD (by rw [List.length_take, List.length_drop, d3, wd_len]; omega) fun k hk => ?_
    rw [List.length_take] at hk
    rw [take_getD (by omega), Mw.drop_getD, repN_get (by rw [← repN_len, d3]; omega)]
    have e6 := wd_get (b := b) (i := i) (show k < l by omega)
    rw [getD_get (by rw [wd_len]; omega)] at e6
    exact (Option.some.inj e6).symm
  rw [e5]
  exact q
end Wk
/-! Q2: letters, known words, loops that are none. -/
namespace Wk
open PySem PySem.Spec PyProof.Rows L2 Y Mw
variable {K : PySem.W.Frag} {G : Gp} {ex : DX} {Q : DK}

def lowC (c : Nat) : Bool := decide (97 ≤ c ∧ c ≤ 122)
def lowL (w : List Nat) : Bool := w.all lowC
theorem low_mem (c : Nat) : decide (c ∈ [97, 98, 99, 100, 101, 102, 103, 104, 105, 106, 107, 108, 109, 110, 111, 112, 113, 114, 115, 116, 117, 118, 119, 120, 121, 122]) = lowC c := by
  unfold lowC
  refine decide_eq_decide.mpr ⟨fun h => ?_, fun h => ?_⟩
  · simp only [List.mem_cons, List.not_mem_nil, or_false] at h
    omega
  · simp only [List.mem_cons, List.not_mem_nil, or_false]
    omega
theorem bls_all {α : Type} {f : α → Bool} (l : List α) : ((l.map f).all id) = l.all f := by
  rw [List.all_map]
  rfl
theorem are_letters_ok {w : List Nat} (hw : w.length ≤ 100000) (q : Q (.bl (lowL w)) G) : sp_are_letters K [.str w] G ex Q := by
  simp only [sp_are_letters, r_are_letters, ini, nones, fnD, dSeq, dNext, dAsg, dAug, dDrop, dRet, dRetN, dIfS, dCB, dBM, dBM0, dCall, dMeth, dMake, dCons, dNil, dVar, slot, dC, dUn, dOp, dTest, dChain, dAnd, dOr, dNot, dAndV, dOrV, dNotV, dIf, dTup, dLst, dLstM, dPar, dDicNew, dSl, dSlM, dNoPart, dPart, dFld, dFldS, gName', gSub', gTup', gNames, tyD, List.map_cons, List.map_nil, List.replicate, List.cons_append, List.nil_append, List.length_cons, List.length_nil, List.set, e_add_int, e_add_str, e_add_tup, e_add_lst, e_iadd_int, e_iadd_str, e_sub, e_neg, e_mod, e_div, e_pow, e_mul_int, e_mul_str, e_mul_lst, e_mul_tup, e_lt_int, e_le_int, e_gt_int, e_ge_int, e_lt_str, e_eq_int, e_eq_str, e_ne_int, e_ne_str, e_in, e_notin, e_ix_str, e_ix_tup, e_ix_lst, e_ix_scr, e_sl_str, e_sl_tup, e_sl_lst, e_int_bl, e_int_int, e_max2, e_min2, oIs, oIsNot, true_and, and_true, Nat.zero_add, ↓reduceIte, Option.some.injEq, List.cons.injEq, D.str.injEq, D.int.injEq, D.bl.injEq, D.ref.injEq, exists_eq_left', exists_and_left, exists_eq_left, dComp, dRow]
  refine isi_of (a := "str") rfl (by decide) ?_
  rw [show subT "str" "str" = true from rfl]
  show dTurns _ _ _ _ _ _ _ _ _
  refine turns_map (f := fun x => match x with
    | .str [c] => .bl (lowC c)
    | _ => .non) (fun x hx T Fs hT hF => ?_) (by rw [List.length_map]; omega) ?_
  · obtain ⟨c, hc, rfl⟩ := List.mem_map.mp hx
    have h := hT rfl
    simp only [TK.d, dwipe, dYes, ini, nones, fnD, dSeq, dNext, dAsg, dAug, dDrop, dRet, dRetN, dIfS, dCB, dBM, dBM0, dCall, dMeth, dMake, dCons, dNil, dVar, slot, dC, dUn, dOp, dTest, dChain, dAnd, dOr, dNot, dAndV, dOrV, dNotV, dIf, dTup, dLst, dLstM, dPar, dDicNew, dSl, dSlM, dNoPart, dPart, dFld, dFldS, gName', gSub', gTup', gNames, tyD, List.map_cons, List.map_nil, List.replicate, List.cons_append, List.nil_append, List.length_cons, List.length_nil, List.set, e_add_int, e_add_str, e_add_tup, e_add_lst, e_iadd_int, e_iadd_str, e_sub, e_neg, e_mod, e_div, e_pow, e_mul_int, e_mul_str, e_mul_lst, e_mul_tup, e_lt_int, e_le_int, e_gt_int, e_ge_int, e_lt_str, e_eq_int, e_eq_str, e_ne_int, e_ne_str, e_in, e_notin, e_ix_str, e_ix_tup, e_ix_lst, e_ix_scr, e_sl_str, e_sl_tup, e_sl_lst, e_int_bl, e_int_int, e_max2, e_min2, oIs, oIsNot, true_and, and_true, Nat.zero_add, ↓reduceIte, Option.some.injEq, List.cons.injEq, D.str.injEq, D.int.injEq, D.bl.injEq, D.ref.injEq, exists_eq_left', exists_and_left, exists_eq_left, oInB]
    rw [low_mem]
    exact h
  · refine all_of (bs := w.map lowC) ?_ ?_
    · show some ((w.map fun c => D.str [c]).map _) = some ((w.map lowC).map D.bl)
      rw [List.map_map, List.map_map]
      rfl
    · rw [bls_all]
      exact q
/-- what known words must be -/
structure KnownOk (ws : List (List Nat)) : Prop where
  let_ : ∀ w ∈ ws, lowL w = true ∧ w ≠ [] ∧ w.length ≤ 100000
  rise : ws.Pairwise (· < ·)
  pre : ∀ w ∈ ws, w.length = 1 ∨ w.dropLast ∈ ws
  few : ws.length ≤ 100000
theorem zip_tail {α : Type} : ∀ (l : List α) (R : α → α → Prop), l.Pairwise R → ∀ p ∈ l.zip (l.drop 1), R p.1 p.2
  | [], _, _, p, hp => by simp at hp
  | [a], _, _, p, hp => by simp at hp
  | a :: b :: l, R, h, p, hp => by
    rw [List.drop_one, List.tail_cons, List.zip_cons_cons] at hp
    rcases List.mem_cons.mp hp with e | e
    · subst e
      exact (List.pairwise_cons.mp h).1 b List.mem_cons_self
    · exact zip_tail (b :: l) R (List.pairwise_cons.mp h).2 p (by rw [List.drop_one, List.tail_cons]; exact e)
/-- {word: True for word in ws} -/
def dicOf (ws : List (List Nat)) : List (DKey × D) := dmerge [] (ws.map fun w => (Sum.inr w, D.bl true))
theorem look_merge : ∀ (ws : List (List Nat)) (acc : List (DKey × D)) (v : List Nat), (dlook (dmerge acc (ws.map fun w => (Sum.inr w, D.bl true))) (.inr v)).isSome = ((dlook acc (.inr v)).isSome || decide (v ∈ ws))
  | [], acc, v => by simp [dmerge]
  | w :: ws, acc, v => by
    have e : dmerge acc ((w :: ws).map fun w => (Sum.inr w, D.bl true)) = dmerge (dput acc (.inr w) (.bl true)) (ws.map fun w => (Sum.inr w, D.bl true)) := rfl
    rw [e, look_merge ws, dlook_put]
    by_cases q : v = w
    · subst q
      simp
    · rw [if_neg fun z => q (Sum.inr.inj z)]
      simp [q]
theorem look_of (ws : List (List Nat)) (v : List Nat) : (dlook (dicOf ws) (.inr v)).isSome = decide (v ∈ ws) := by
  unfold dicOf
  rw [look_merge]
  simp [dlook]
theorem dmerge_len : ∀ (more acc : List (DKey × D)), (dmerge acc more).length ≤ acc.length + more.length
  | [], acc => by simp [dmerge]
  | p :: more, acc => by
    have e : dmerge acc (p :: more) = dmerge (dput acc p.1 p.2) more := rfl
    have h := dmerge_len more (dput acc p.1 p.2)
    have h2 := dput_len acc p.1 p.2
    rw [e, List.length_cons]
    omega
/-- {word: True for word in known} -/
theorem dc_words {ws : List (List Nat)} {σ : DSt} {vs : List Nat} {i : Nat} {k : List (DKey × D) → Gp → Prop} (hl : ws.length ≤ 100000) (hs : ∀ d, slot ((dwipe σ vs).set i (some d)) i = some d) (hk : k (dicOf ws) G) : dTurnsD (.one i) dYes (dVar i) (dC (.bl true)) vs σ (ws.map D.str) [] G k := by
  refine turnsD_pure (f := fun x => match x with
    | .str w => (.inr w, .bl true)
    | _ => (.inl 0, .non)) (fun x hx T hT => ?_) (by rw [List.length_map, List.length_nil]; omega) ?_
  · obtain ⟨w, hw, rfl⟩ := List.mem_map.mp hx
    simp only [TK.d, gName', dVar, dC, hs]
    exact hT _ rfl
  · rw [List.map_map]
    exact hk
theorem is_known_ok {ws : List (List Nat)} (h : KnownOk ws) (q : ∀ G', Le G G' → Q (.bl true) G') : sp_is_known K [.tup (ws.map D.str)] G ex Q := by
  simp only [sp_is_known, r_is_known, ini, nones, fnD, dSeq, dNext, dAsg, dAug, dDrop, dRet, dRetN, dIfS, dCB, dBM, dBM0, dCall, dMeth, dMake, dCons, dNil, dVar, slot, dC, dUn, dOp, dTest, dChain, dAnd, dOr, dNot, dAndV, dOrV, dNotV, dIf, dTup, dLst, dLstM, dPar, dDicNew, dSl, dSlM, dNoPart, dPart, dFld, dFldS, gName', gSub', gTup', gNames, tyD, List.map_cons, List.map_nil, List.replicate, List.cons_append, List.nil_append, List.length_cons, List.length_nil, List.set, e_add_int, e_add_str, e_add_tup, e_add_lst, e_iadd_int, e_iadd_str, e_sub, e_neg, e_mod, e_div, e_pow, e_mul_int, e_mul_str, e_mul_lst, e_mul_tup, e_lt_int, e_le_int, e_gt_int, e_ge_int, e_lt_str, e_eq_int, e_eq_str, e_ne_int, e_ne_str, e_in, e_notin, e_ix_str, e_ix_tup, e_ix_lst, e_ix_scr, e_sl_str, e_sl_tup, e_sl_lst, e_int_bl, e_int_int, e_max2, e_min2, oIs, oIsNot, true_and, and_true, Nat.zero_add, ↓reduceIte, Option.some.injEq, List.cons.injEq, D.str.injEq, D.int.injEq, D.bl.injEq, D.ref.injEq, exists_eq_left', exists_and_left, exists_eq_left, dComp, dRow, rowOf]
  refine isi_of (a := "tuple") rfl (by decide) ?_
  rw [show subT "tuple" "tuple" = true from rfl]
  show dTurns _ _ _ _ _ _ _ _ _
  have hlen : (ws.map D.str).length ≤ 10000000 := by rw [List.length_map]; have := h.few; omega
  refine turns_map (f := fun _ => .bl true) (fun x hx T Fs hT hF => ?_) hlen ?_
  · obtain ⟨w, hw, rfl⟩ := List.mem_map.mp hx
    obtain ⟨w1, w2, w3⟩ := h.let_ w hw
    simp only [TK.d, dwipe, dYes, ini, nones, fnD, dSeq, dNext, dAsg, dAug, dDrop, dRet, dRetN, dIfS, dCB, dBM, dBM0, dCall, dMeth, dMake, dCons, dNil, dVar, slot, dC, dUn, dOp, dTest, dChain, dAnd, dOr, dNot, dAndV, dOrV, dNotV, dIf, dTup, dLst, dLstM, dPar, dDicNew, dSl, dSlM, dNoPart, dPart, dFld, dFldS, gName', gSub', gTup', gNames, tyD, List.map_cons, List.map_nil, List.replicate, List.cons_append, List.nil_append, List.length_cons, List.length_nil, List.set, e_add_int, e_add_str, e_add_tup, e_add_lst, e_iadd_int, e_iadd_str, e_sub, e_neg, e_mod, e_div, e_pow, e_mul_int, e_mul_str, e_mul_lst, e_mul_tup, e_lt_int, e_le_int, e_gt_int, e_ge_int, e_lt_str, e_eq_int, e_eq_str, e_ne_int, e_ne_str, e_in, e_notin, e_ix_str, e_ix_tup, e_ix_lst, e_ix_scr, e_sl_str, e_sl_tup, e_sl_lst, e_int_bl, e_int_int, e_max2, e_min2, oIs, oIsNot, true_and, and_true, Nat.zero_add, ↓reduceIte, Option.some.injEq, List.cons.injEq, D.str.injEq, D.int.injEq, D.bl.injEq, D.ref.injEq, exists_eq_left', exists_and_left, exists_eq_left]
    refine are_letters_ok w3 ?_
    rw [w1]
    refine ne_str ?_
    rw [decide_eq_false w2]
    exact hT rfl
  refine all_true (fun _ _ => rfl) ?_
  show dZip _ _ _ _ _ _
  simp only [dZip, ini, nones, fnD, dSeq, dNext, dAsg, dAug, dDrop, dRet, dRetN, dIfS, dCB, dBM, dBM0, dCall, dMeth, dMake, dCons, dNil, dVar, slot, dC, dUn, dOp, dTest, dChain, dAnd, dOr, dNot, dAndV, dOrV, dNotV, dIf, dTup, dLst, dLstM, dPar, dDicNew, dSl, dSlM, dNoPart, dPart, dFld, dFldS, gName', gSub', gTup', gNames, tyD, List.map_cons, List.map_nil, List.replicate, List.cons_append, List.nil_append, List.length_cons, List.length_nil, List.set, e_add_int, e_add_str, e_add_tup, e_add_lst, e_iadd_int, e_iadd_str, e_sub, e_neg, e_mod, e_div, e_pow, e_mul_int, e_mul_str, e_mul_lst, e_mul_tup, e_lt_int, e_le_int, e_gt_int, e_ge_int, e_lt_str, e_eq_int, e_eq_str, e_ne_int, e_ne_str, e_in, e_notin, e_ix_str, e_ix_tup, e_ix_lst, e_ix_scr, e_sl_str, e_sl_tup, e_sl_lst, e_int_bl, e_int_int, e_max2, e_min2, oIs, oIsNot, true_and, and_true, Nat.zero_add, ↓reduceIte, Option.some.injEq, List.cons.injEq, D.str.injEq, D.int.injEq, D.bl.injEq, D.ref.injEq, exists_eq_left', exists_and_left, exists_eq_left, oSl, cut_from (show (0 : Int) ≤ 1 by decide)]
  refine turns_map (f := fun _ => .bl true) (fun x hx T Fs hT hF => ?_) ?_ ?_
  · unfold zipD at hx
    obtain ⟨p, hp, rfl⟩ := List.mem_map.mp hx
    have hp' : p ∈ (ws.map D.str).zip ((ws.drop 1).map D.str) := by rw [List.map_drop]; exact hp
    rw [List.zip_map, List.mem_map] at hp'
    obtain ⟨⟨u, v⟩, huv, rfl⟩ := hp'
    have hlt : u < v := zip_tail ws (· < ·) h.rise (u, v) huv
    simp only [TK.d, dwipe, dYes, Prod.map, ini, nones, fnD, dSeq, dNext, dAsg, dAug, dDrop, dRet, dRetN, dIfS, dCB, dBM, dBM0, dCall, dMeth, dMake, dCons, dNil, dVar, slot, dC, dUn, dOp, dTest, dChain, dAnd, dOr, dNot, dAndV, dOrV, dNotV, dIf, dTup, dLst, dLstM, dPar, dDicNew, dSl, dSlM, dNoPart, dPart, dFld, dFldS, gName', gSub', gTup', gNames, tyD, List.map_cons, List.map_nil, List.replicate, List.cons_append, List.nil_append, List.length_cons, List.length_nil, List.set, e_add_int, e_add_str, e_add_tup, e_add_lst, e_iadd_int, e_iadd_str, e_sub, e_neg, e_mod, e_div, e_pow, e_mul_int, e_mul_str, e_mul_lst, e_mul_tup, e_lt_int, e_le_int, e_gt_int, e_ge_int, e_lt_str, e_eq_int, e_eq_str, e_ne_int, e_ne_str, e_in, e_notin, e_ix_str, e_ix_tup, e_ix_lst, e_ix_scr, e_sl_str, e_sl_tup, e_sl_lst, e_int_bl, e_int_int, e_max2, e_min2, oIs, oIsNot, true_and, and_true, Nat.zero_add, ↓reduceIte, Option.some.injEq, List.cons.injEq, D.str.injEq, D.int.injEq, D.bl.injEq, D.ref.injEq, exists_eq_left', exists_and_left, exists_eq_left]
    rw [decide_eq_true hlt]
    exact hT rfl
  · unfold zipD
    rw [List.length_map, List.length_zip]
    omega
  refine all_true (fun _ _ => rfl) ?_
  show dCompD _ _ _ _ _ _ _ _ _ _
  simp only [dCompD, dRow, rowOf, ini, nones, fnD, dSeq, dNext, dAsg, dAug, dDrop, dRet, dRetN, dIfS, dCB, dBM, dBM0, dCall, dMeth, dMake, dCons, dNil, dVar, slot, dC, dUn, dOp, dTest, dChain, dAnd, dOr, dNot, dAndV, dOrV, dNotV, dIf, dTup, dLst, dLstM, dPar, dDicNew, dSl, dSlM, dNoPart, dPart, dFld, dFldS, gName', gSub', gTup', gNames, tyD, List.map_cons, List.map_nil, List.replicate, List.cons_append, List.nil_append, List.length_cons, List.length_nil, List.set, e_add_int, e_add_str, e_add_tup, e_add_lst, e_iadd_int, e_iadd_str, e_sub, e_neg, e_mod, e_div, e_pow, e_mul_int, e_mul_str, e_mul_lst, e_mul_tup, e_lt_int, e_le_int, e_gt_int, e_ge_int, e_lt_str, e_eq_int, e_eq_str, e_ne_int, e_ne_str, e_in, e_notin, e_ix_str, e_ix_tup, e_ix_lst, e_ix_scr, e_sl_str, e_sl_tup, e_sl_lst, e_int_bl, e_int_int, e_max2, e_min2, oIs, oIsNot, true_and, and_true, Nat.zero_add, ↓reduceIte, Option.some.injEq, List.cons.injEq, D.str.injEq, D.int.injEq, D.bl.injEq, D.ref.injEq, exists_eq_left', exists_and_left, exists_eq_left]
  refine dc_words h.few (fun d => rfl) fun p hp => ?_
  have hG : (G.set p (.dic (dicOf ws))) p = some (.dic (dicOf ws)) := Gp.set_same
  refine turns_map (f := fun _ => .bl true) (fun x hx T Fs hT hF => ?_) hlen ?_
  · obtain ⟨w, hw, rfl⟩ := List.mem_map.mp hx
    obtain ⟨w1, w2, w3⟩ := h.let_ w hw
    simp only [TK.d, dwipe, dYes, ini, nones, fnD, dSeq, dNext, dAsg, dAug, dDrop, dRet, dRetN, dIfS, dCB, dBM, dBM0, dCall, dMeth, dMake, dCons, dNil, dVar, slot, dC, dUn, dOp, dTest, dChain, dAnd, dOr, dNot, dAndV, dOrV, dNotV, dIf, dTup, dLst, dLstM, dPar, dDicNew, dSl, dSlM, dNoPart, dPart, dFld, dFldS, gName', gSub', gTup', gNames, tyD, List.map_cons, List.map_nil, List.replicate, List.cons_append, List.nil_append, List.length_cons, List.length_nil, List.set, e_add_int, e_add_str, e_add_tup, e_add_lst, e_iadd_int, e_iadd_str, e_sub, e_neg, e_mod, e_div, e_pow, e_mul_int, e_mul_str, e_mul_lst, e_mul_tup, e_lt_int, e_le_int, e_gt_int, e_ge_int, e_lt_str, e_eq_int, e_eq_str, e_ne_int, e_ne_str, e_in, e_notin, e_ix_str, e_ix_tup, e_ix_lst, e_ix_scr, e_sl_str, e_sl_tup, e_sl_lst, e_int_bl, e_int_int, e_max2, e_min2, oIs, oIsNot, true_and, and_true, Nat.zero_add, ↓reduceIte, Option.some.injEq, List.cons.injEq, D.str.injEq, D.int.injEq, D.bl.injEq, D.ref.injEq, exists_eq_left', exists_and_left, exists_eq_left]
    refine len_of (n := w.length) rfl (by omega) (eq_int ?_)
    by_cases e : w.length = 1
    · rw [decide_eq_true (by omega : (w.length : Int) = 1)]
      exact hT rfl
    · rw [decide_eq_false (by omega : ¬ (w.length : Int) = 1)]
      refine ⟨by omega, ?_⟩
      rw [cut_butlast]
      refine inB_dic hG ?_
      rw [look_of, decide_eq_true ((h.pre w hw).resolve_left e)]
      exact hT rfl
  · refine all_true (fun _ _ => rfl) (q _ fun a o e => ?_)
    by_cases z : a = p
    · subst z; rw [hp] at e; cases e
    · rw [Gp.set_ne z]; exact e
end Wk
/-! Q3: what is asked of loops and known words; what is drawn. -/
namespace Wk
open PySem PySem.Spec PyProof.Rows L2 Y Mw
variable {K : PySem.W.Frag} {G : Gp} {ex : DX} {Q : DK}

structure LoopOk (l : List Nat) : Prop where
  low : lowL l = true
  pos : 0 < l.length
  few : l.length ≤ 12
theorem need_known_ok {ws : List (List Nat)} (h : KnownOk ws) (q : ∀ G', Le G G' → Q .non G') : sp_need_known K [.tup (ws.map D.str)] G ex Q := by
  simp only [sp_need_known, r_need_known, ini, nones, fnD, dSeq, dNext, dAsg, dAug, dDrop, dRet, dRetN, dIfS, dCB, dBM, dBM0, dCall, dMeth, dMake, dCons, dNil, dVar, slot, dC, dUn, dOp, dTest, dChain, dAnd, dOr, dNot, dAndV, dOrV, dNotV, dIf, dTup, dLst, dLstM, dPar, dDicNew, dSl, dSlM, dNoPart, dPart, dFld, dFldS, gName', gSub', gTup', gNames, tyD, List.map_cons, List.map_nil, List.replicate, List.cons_append, List.nil_append, List.length_cons, List.length_nil, List.set, e_add_int, e_add_str, e_add_tup, e_add_lst, e_iadd_int, e_iadd_str, e_sub, e_neg, e_mod, e_div, e_pow, e_mul_int, e_mul_str, e_mul_lst, e_mul_tup, e_lt_int, e_le_int, e_gt_int, e_ge_int, e_lt_str, e_eq_int, e_eq_str, e_ne_int, e_ne_str, e_in, e_notin, e_ix_str, e_ix_tup, e_ix_lst, e_ix_scr, e_sl_str, e_sl_tup, e_sl_lst, e_int_bl, e_int_int, e_max2, e_min2, oIs, oIsNot, true_and, and_true, Nat.zero_add, ↓reduceIte, Option.some.injEq, List.cons.injEq, D.str.injEq, D.int.injEq, D.bl.injEq, D.ref.injEq, exists_eq_left', exists_and_left, exists_eq_left]
  refine is_known_ok h fun G' hG => ?_
  exact q G' hG
theorem need_loop_ok {l : List Nat} (h : LoopOk l) (q : Q .non G) : sp_need_loop K [.str l] G ex Q := by
  have h1 := h.pos
  have h2 := h.few
  simp only [sp_need_loop, r_need_loop, ini, nones, fnD, dSeq, dNext, dAsg, dAug, dDrop, dRet, dRetN, dIfS, dCB, dBM, dBM0, dCall, dMeth, dMake, dCons, dNil, dVar, slot, dC, dUn, dOp, dTest, dChain, dAnd, dOr, dNot, dAndV, dOrV, dNotV, dIf, dTup, dLst, dLstM, dPar, dDicNew, dSl, dSlM, dNoPart, dPart, dFld, dFldS, gName', gSub', gTup', gNames, tyD, List.map_cons, List.map_nil, List.replicate, List.cons_append, List.nil_append, List.length_cons, List.length_nil, List.set, e_add_int, e_add_str, e_add_tup, e_add_lst, e_iadd_int, e_iadd_str, e_sub, e_neg, e_mod, e_div, e_pow, e_mul_int, e_mul_str, e_mul_lst, e_mul_tup, e_lt_int, e_le_int, e_gt_int, e_ge_int, e_lt_str, e_eq_int, e_eq_str, e_ne_int, e_ne_str, e_in, e_notin, e_ix_str, e_ix_tup, e_ix_lst, e_ix_scr, e_sl_str, e_sl_tup, e_sl_lst, e_int_bl, e_int_int, e_max2, e_min2, oIs, oIsNot, true_and, and_true, Nat.zero_add, ↓reduceIte, Option.some.injEq, List.cons.injEq, D.str.injEq, D.int.injEq, D.bl.injEq, D.ref.injEq, exists_eq_left', exists_and_left, exists_eq_left]
  simp only [sp_is_loop, r_is_loop, ini, nones, fnD, dSeq, dNext, dAsg, dAug, dDrop, dRet, dRetN, dIfS, dCB, dBM, dBM0, dCall, dMeth, dMake, dCons, dNil, dVar, slot, dC, dUn, dOp, dTest, dChain, dAnd, dOr, dNot, dAndV, dOrV, dNotV, dIf, dTup, dLst, dLstM, dPar, dDicNew, dSl, dSlM, dNoPart, dPart, dFld, dFldS, gName', gSub', gTup', gNames, tyD, List.map_cons, List.map_nil, List.replicate, List.cons_append, List.nil_append, List.length_cons, List.length_nil, List.set, e_add_int, e_add_str, e_add_tup, e_add_lst, e_iadd_int, e_iadd_str, e_sub, e_neg, e_mod, e_div, e_pow, e_mul_int, e_mul_str, e_mul_lst, e_mul_tup, e_lt_int, e_le_int, e_gt_int, e_ge_int, e_lt_str, e_eq_int, e_eq_str, e_ne_int, e_ne_str, e_in, e_notin, e_ix_str, e_ix_tup, e_ix_lst, e_ix_scr, e_sl_str, e_sl_tup, e_sl_lst, e_int_bl, e_int_int, e_max2, e_min2, oIs, oIsNot, true_and, and_true, Nat.zero_add, ↓reduceIte, Option.some.injEq, List.cons.injEq, D.str.injEq, D.int.injEq, D.bl.injEq, D.ref.injEq, exists_eq_left', exists_and_left, exists_eq_left]
  refine are_letters_ok (by omega) ?_
  rw [h.low]
  refine len_of (n := l.length) rfl (by omega) ?_
  rw [e_le_int, decide_eq_true (by omega : (1 : Int) ≤ (l.length : Int))]
  dsimp only
  rw [e_le_int, decide_eq_true (by omega : (l.length : Int) ≤ 12)]
  exact q
theorem need_both_ok {l : List Nat} {ws : List (List Nat)} (hl : LoopOk l) (h : KnownOk ws) (q : ∀ G', Le G G' → Q .non G') : sp_need_both K [.str l, .tup (ws.map D.str)] G ex Q := by
  simp only [sp_need_both, r_need_both, ini, nones, fnD, dSeq, dNext, dAsg, dAug, dDrop, dRet, dRetN, dIfS, dCB, dBM, dBM0, dCall, dMeth, dMake, dCons, dNil, dVar, slot, dC, dUn, dOp, dTest, dChain, dAnd, dOr, dNot, dAndV, dOrV, dNotV, dIf, dTup, dLst, dLstM, dPar, dDicNew, dSl, dSlM, dNoPart, dPart, dFld, dFldS, gName', gSub', gTup', gNames, tyD, List.map_cons, List.map_nil, List.replicate, List.cons_append, List.nil_append, List.length_cons, List.length_nil, List.set, e_add_int, e_add_str, e_add_tup, e_add_lst, e_iadd_int, e_iadd_str, e_sub, e_neg, e_mod, e_div, e_pow, e_mul_int, e_mul_str, e_mul_lst, e_mul_tup, e_lt_int, e_le_int, e_gt_int, e_ge_int, e_lt_str, e_eq_int, e_eq_str, e_ne_int, e_ne_str, e_in, e_notin, e_ix_str, e_ix_tup, e_ix_lst, e_ix_scr, e_sl_str, e_sl_tup, e_sl_lst, e_int_bl, e_int_int, e_max2, e_min2, oIs, oIsNot, true_and, and_true, Nat.zero_add, ↓reduceIte, Option.some.injEq, List.cons.injEq, D.str.injEq, D.int.injEq, D.bl.injEq, D.ref.injEq, exists_eq_left', exists_and_left, exists_eq_left]
  exact need_loop_ok hl (need_known_ok h q)
/-! ### draws -/
structure PotAt (G : Gp) (p : Addr) (n : Nat) : Prop where
  ex : ∃ a b c : Int, G p = some (.lst [.int a, .int b, .int c]) ∧ 0 ≤ a ∧ 0 ≤ b ∧ b < 10 ^ 40 ∧ 0 ≤ c ∧ c ≤ n
/-- all but what stands at p is as it was -/
def But (p : Addr) (G G' : Gp) : Prop := ∀ a, a ≠ p → G' a = G a
theorem But.refl {p : Addr} : But p G G := fun _ _ => rfl
theorem But.trans {p : Addr} {G1 G2 : Gp} (a : But p G G1) (b : But p G1 G2) : But p G G2 := fun x h => (b x h).trans (a x h)
theorem But.set {p : Addr} {o : GO} : But p G (G.set p o) := fun a h => Gp.set_ne h
theorem pow40 : (10 : Int) ^ 40 = 10000000000000000000000000000000000000000 := by decide
theorem BB_big {i : Int} (h0 : 0 ≤ i) (h : i < 10 ^ 200) : i.natAbs < BB := by
  have e : (10 : Int) ^ 200 = ((10 ^ 200 : Nat) : Int) := by norm_cast
  have : i.natAbs < 10 ^ 200 := by omega
  exact Nat.lt_trans this (by unfold BB; decide +kernel)
theorem draw_ok {p : Addr} {n : Nat} {many : Int} (h : PotAt G p n) (hn : n < 10 ^ 20) (h1 : 1 ≤ many) (h2 : many < 10 ^ 100) (q : ∀ d G', 0 ≤ d → d < many → PotAt G' p (n + 1) → But p G G' → Q (.int d) G') : sp__law_draw K [.ref p, .int many] G ex Q := by
  obtain ⟨a, b, c, e, ha, hb, hb2, hc, hc2⟩ := h.ex
  have hm : many.natAbs < BB := BB_big (by omega) (by
    have : (10 : Int) ^ 100 ≤ 10 ^ 200 := by decide
    omega)
  have e10 : (10 : Int) ^ 20 = 100000000000000000000 := by decide
  have e11 : (10 : Nat) ^ 20 = 100000000000000000000 := by decide
  have e12 : (10 : Int) ^ 200 ≥ 10 ^ 100 := by decide
  have e13 : (10 : Int) ^ 100 ≥ 10000000000000000000000000000000000000000000000000000000000000000000000 := by decide
  rw [pow40] at hb2
  simp only [sp__law_draw, r__law_draw, ini, nones, fnD, dSeq, dNext, dAsg, dAug, dDrop, dRet, dRetN, dIfS, dCB, dBM, dBM0, dCall, dMeth, dMake, dCons, dNil, dVar, slot, dC, dUn, dOp, dTest, dChain, dAnd, dOr, dNot, dAndV, dOrV, dNotV, dIf, dTup, dLst, dLstM, dPar, dDicNew, dSl, dSlM, dNoPart, dPart, dFld, dFldS, gName', gSub', gTup', gNames, tyD, List.map_cons, List.map_nil, List.replicate, List.cons_append, List.nil_append, List.length_cons, List.length_nil, List.set, e_add_int, e_add_str, e_add_tup, e_add_lst, e_iadd_int, e_iadd_str, e_sub, e_neg, e_mod, e_div, e_pow, e_mul_int, e_mul_str, e_mul_lst, e_mul_tup, e_lt_int, e_le_int, e_gt_int, e_ge_int, e_lt_str, e_eq_int, e_eq_str, e_ne_int, e_ne_str, e_in, e_notin, e_ix_str, e_ix_tup, e_ix_lst, e_ix_scr, e_sl_str, e_sl_tup, e_sl_lst, e_int_bl, e_int_int, e_max2, e_min2, oIs, oIsNot, true_and, and_true, Nat.zero_add, ↓reduceIte, Option.some.injEq, List.cons.injEq, D.str.injEq, D.int.injEq, D.bl.injEq, D.ref.injEq, exists_eq_left', exists_and_left, exists_eq_left]
  refine ix_ref e (d := .int a) rfl ?_
  simp only [ini, nones, fnD, dSeq, dNext, dAsg, dAug, dDrop, dRet, dRetN, dIfS, dCB, dBM, dBM0, dCall, dMeth, dMake, dCons, dNil, dVar, slot, dC, dUn, dOp, dTest, dChain, dAnd, dOr, dNot, dAndV, dOrV, dNotV, dIf, dTup, dLst, dLstM, dPar, dDicNew, dSl, dSlM, dNoPart, dPart, dFld, dFldS, gName', gSub', gTup', gNames, tyD, List.map_cons, List.map_nil, List.replicate, List.cons_append, List.nil_append, List.length_cons, List.length_nil, List.set, e_add_int, e_add_str, e_add_tup, e_add_lst, e_iadd_int, e_iadd_str, e_sub, e_neg, e_mod, e_div, e_pow, e_mul_int, e_mul_str, e_mul_lst, e_mul_tup, e_lt_int, e_le_int, e_gt_int, e_ge_int, e_lt_str, e_eq_int, e_eq_str, e_ne_int, e_ne_str, e_in, e_notin, e_ix_str, e_ix_tup, e_ix_lst, e_ix_scr, e_sl_str, e_sl_tup, e_sl_lst, e_int_bl, e_int_int, e_max2, e_min2, oIs, oIsNot, true_and, and_true, Nat.zero_add, ↓reduceIte, Option.some.injEq, List.cons.injEq, D.str.injEq, D.int.injEq, D.bl.injEq, D.ref.injEq, exists_eq_left', exists_and_left, exists_eq_left]
  by_cases ha0 : 0 < a
  · rw [decide_eq_true ha0]
    refine ix_ref e (d := .int a) rfl ?_
    simp only [ini, nones, fnD, dSeq, dNext, dAsg, dAug, dDrop, dRet, dRetN, dIfS, dCB, dBM, dBM0, dCall, dMeth, dMake, dCons, dNil, dVar, slot, dC, dUn, dOp, dTest, dChain, dAnd, dOr, dNot, dAndV, dOrV, dNotV, dIf, dTup, dLst, dLstM, dPar, dDicNew, dSl, dSlM, dNoPart, dPart, dFld, dFldS, gName', gSub', gTup', gNames, tyD, List.map_cons, List.map_nil, List.replicate, List.cons_append, List.nil_append, List.length_cons, List.length_nil, List.set, e_add_int, e_add_str, e_add_tup, e_add_lst, e_iadd_int, e_iadd_str, e_sub, e_neg, e_mod, e_div, e_pow, e_mul_int, e_mul_str, e_mul_lst, e_mul_tup, e_lt_int, e_le_int, e_gt_int, e_ge_int, e_lt_str, e_eq_int, e_eq_str, e_ne_int, e_ne_str, e_in, e_notin, e_ix_str, e_ix_tup, e_ix_lst, e_ix_scr, e_sl_str, e_sl_tup, e_sl_lst, e_int_bl, e_int_int, e_max2, e_min2, oIs, oIsNot, true_and, and_true, Nat.zero_add, ↓reduceIte, Option.some.injEq, List.cons.injEq, D.str.injEq, D.int.injEq, D.bl.injEq, D.ref.injEq, exists_eq_left', exists_and_left, exists_eq_left]
    refine ⟨by omega, ix_ref e (d := .int a) rfl ?_⟩
    simp only [ini, nones, fnD, dSeq, dNext, dAsg, dAug, dDrop, dRet, dRetN, dIfS, dCB, dBM, dBM0, dCall, dMeth, dMake, dCons, dNil, dVar, slot, dC, dUn, dOp, dTest, dChain, dAnd, dOr, dNot, dAndV, dOrV, dNotV, dIf, dTup, dLst, dLstM, dPar, dDicNew, dSl, dSlM, dNoPart, dPart, dFld, dFldS, gName', gSub', gTup', gNames, tyD, List.map_cons, List.map_nil, List.replicate, List.cons_append, List.nil_append, List.length_cons, List.length_nil, List.set, e_add_int, e_add_str, e_add_tup, e_add_lst, e_iadd_int, e_iadd_str, e_sub, e_neg, e_mod, e_div, e_pow, e_mul_int, e_mul_str, e_mul_lst, e_mul_tup, e_lt_int, e_le_int, e_gt_int, e_ge_int, e_lt_str, e_eq_int, e_eq_str, e_ne_int, e_ne_str, e_in, e_notin, e_ix_str, e_ix_tup, e_ix_lst, e_ix_scr, e_sl_str, e_sl_tup, e_sl_lst, e_int_bl, e_int_int, e_max2, e_min2, oIs, oIsNot, true_and, and_true, Nat.zero_add, ↓reduceIte, Option.some.injEq, List.cons.injEq, D.str.injEq, D.int.injEq, D.bl.injEq, D.ref.injEq, exists_eq_left', exists_and_left, exists_eq_left]
    refine ⟨⟨by omega, hm⟩, set_ref e (j := 0) rfl ?_⟩
    refine q _ _ (Int.emod_nonneg _ (by omega)) (Int.emod_lt_of_pos _ (by omega)) ⟨a / many, b, c, Gp.set_same, Int.ediv_nonneg ha (by omega), hb, by rw [pow40]; exact hb2, hc, by omega⟩ But.set
  · rw [decide_eq_false ha0]
    refine ix_ref e (d := .int c) rfl ?_
    simp only [ini, nones, fnD, dSeq, dNext, dAsg, dAug, dDrop, dRet, dRetN, dIfS, dCB, dBM, dBM0, dCall, dMeth, dMake, dCons, dNil, dVar, slot, dC, dUn, dOp, dTest, dChain, dAnd, dOr, dNot, dAndV, dOrV, dNotV, dIf, dTup, dLst, dLstM, dPar, dDicNew, dSl, dSlM, dNoPart, dPart, dFld, dFldS, gName', gSub', gTup', gNames, tyD, List.map_cons, List.map_nil, List.replicate, List.cons_append, List.nil_append, List.length_cons, List.length_nil, List.set, e_add_int, e_add_str, e_add_tup, e_add_lst, e_iadd_int, e_iadd_str, e_sub, e_neg, e_mod, e_div, e_pow, e_mul_int, e_mul_str, e_mul_lst, e_mul_tup, e_lt_int, e_le_int, e_gt_int, e_ge_int, e_lt_str, e_eq_int, e_eq_str, e_ne_int, e_ne_str, e_in, e_notin, e_ix_str, e_ix_tup, e_ix_lst, e_ix_scr, e_sl_str, e_sl_tup, e_sl_lst, e_int_bl, e_int_int, e_max2, e_min2, oIs, oIsNot, true_and, and_true, Nat.zero_add, ↓reduceIte, Option.some.injEq, List.cons.injEq, D.str.injEq, D.int.injEq, D.bl.injEq, D.ref.injEq, exists_eq_left', exists_and_left, exists_eq_left]
    refine set_ref e (j := 2) rfl ?_
    have e2 : (G.set p (.lst ([D.int a, D.int b, D.int c].set 2 (.int (c + 1))))) p = some (.lst [.int a, .int b, .int (c + 1)]) := Gp.set_same
    refine ix_ref e2 (d := .int b) rfl (ix_ref e2 (d := .int (c + 1)) rfl ?_)
    simp only [ini, nones, fnD, dSeq, dNext, dAsg, dAug, dDrop, dRet, dRetN, dIfS, dCB, dBM, dBM0, dCall, dMeth, dMake, dCons, dNil, dVar, slot, dC, dUn, dOp, dTest, dChain, dAnd, dOr, dNot, dAndV, dOrV, dNotV, dIf, dTup, dLst, dLstM, dPar, dDicNew, dSl, dSlM, dNoPart, dPart, dFld, dFldS, gName', gSub', gTup', gNames, tyD, List.map_cons, List.map_nil, List.replicate, List.cons_append, List.nil_append, List.length_cons, List.length_nil, List.set, e_add_int, e_add_str, e_add_tup, e_add_lst, e_iadd_int, e_iadd_str, e_sub, e_neg, e_mod, e_div, e_pow, e_mul_int, e_mul_str, e_mul_lst, e_mul_tup, e_lt_int, e_le_int, e_gt_int, e_ge_int, e_lt_str, e_eq_int, e_eq_str, e_ne_int, e_ne_str, e_in, e_notin, e_ix_str, e_ix_tup, e_ix_lst, e_ix_scr, e_sl_str, e_sl_tup, e_sl_lst, e_int_bl, e_int_int, e_max2, e_min2, oIs, oIsNot, true_and, and_true, Nat.zero_add, ↓reduceIte, Option.some.injEq, List.cons.injEq, D.str.injEq, D.int.injEq, D.bl.injEq, D.ref.injEq, exists_eq_left', exists_and_left, exists_eq_left]
    refine ⟨⟨by decide, BB_big (by omega) (by omega)⟩, ⟨⟨by decide, by decide, BB_big (by omega) (by omega)⟩, ⟨⟨by decide, by decide, by decide⟩, ?_⟩⟩⟩
    have p37 : (10 : Int) ^ Int.toNat 37 + 43 = 10000000000000000000000000000000000043 := by decide
    have p36 : (10 : Int) ^ Int.toNat 36 + 67 = 1000000000000000000000000000000000067 := by decide
    rw [p37, p36]
    obtain ⟨z, hz⟩ : ∃ z, z = (b + 982451629 * (c + 1)) ^ Int.toNat 3 % 10000000000000000000000000000000000043 := ⟨_, rfl⟩
    have hz0 := Int.emod_nonneg ((b + 982451629 * (c + 1)) ^ Int.toNat 3) (show (10000000000000000000000000000000000043 : Int) ≠ 0 by decide)
    have hz1 := Int.emod_lt_of_pos ((b + 982451629 * (c + 1)) ^ Int.toNat 3) (show (0 : Int) < 10000000000000000000000000000000000043 by decide)
    rw [← hz] at hz0 hz1 ⊢
    refine ⟨by decide, ix_ref e2 (d := .int (c + 1)) rfl ?_⟩
    simp only [ini, nones, fnD, dSeq, dNext, dAsg, dAug, dDrop, dRet, dRetN, dIfS, dCB, dBM, dBM0, dCall, dMeth, dMake, dCons, dNil, dVar, slot, dC, dUn, dOp, dTest, dChain, dAnd, dOr, dNot, dAndV, dOrV, dNotV, dIf, dTup, dLst, dLstM, dPar, dDicNew, dSl, dSlM, dNoPart, dPart, dFld, dFldS, gName', gSub', gTup', gNames, tyD, List.map_cons, List.map_nil, List.replicate, List.cons_append, List.nil_append, List.length_cons, List.length_nil, List.set, e_add_int, e_add_str, e_add_tup, e_add_lst, e_iadd_int, e_iadd_str, e_sub, e_neg, e_mod, e_div, e_pow, e_mul_int, e_mul_str, e_mul_lst, e_mul_tup, e_lt_int, e_le_int, e_gt_int, e_ge_int, e_lt_str, e_eq_int, e_eq_str, e_ne_int, e_ne_str, e_in, e_notin, e_ix_str, e_ix_tup, e_ix_lst, e_ix_scr, e_sl_str, e_sl_tup, e_sl_lst, e_int_bl, e_int_int, e_max2, e_min2, oIs, oIsNot, true_and, and_true, Nat.zero_add, ↓reduceIte, Option.some.injEq, List.cons.injEq, D.str.injEq, D.int.injEq, D.bl.injEq, D.ref.injEq, exists_eq_left', exists_and_left, exists_eq_left]
    refine ⟨⟨by decide, BB_big (by omega) (by omega)⟩, ⟨⟨by decide, by decide, BB_big (by omega) (by omega)⟩, ⟨⟨by decide, by decide, by decide⟩, ?_⟩⟩⟩
    refine ⟨by decide, ⟨by decide, by decide⟩, by omega, ?_⟩
    exact q _ _ (Int.emod_nonneg _ (by omega)) (Int.emod_lt_of_pos _ (by omega)) ⟨a, b, c + 1, e2, ha, hb, by rw [pow40]; exact hb2, by omega, by omega⟩ But.set
end Wk
/-! Q4: loops that are drawn. -/
namespace Wk
open PySem PySem.Spec PyProof.Rows L2 Y Mw
variable {K : PySem.W.Frag} {G : Gp} {ex : DX} {Q : DK}

theorem p20 : (10 : Nat) ^ 20 = 100000000000000000000 := by decide
theorem p100 {i : Int} (h : i < 1000000000) : i < (10 : Int) ^ 100 := Int.lt_trans h (by decide)
theorem joinL_one : ∀ cs : List Nat, TL.joinL [] (cs.map fun c => [c]) = cs
  | [] => rfl
  | [c] => rfl
  | c :: d :: r => by
    show [c] ++ ([] ++ TL.joinL [] ((d :: r).map fun c => [c])) = c :: d :: r
    rw [joinL_one (d :: r)]
    rfl
theorem low_abc : ∀ c ∈ [97, 98, 99, 100, 101, 102, 103, 104, 105, 106, 107, 108, 109, 110, 111, 112, 113, 114, 115, 116, 117, 118, 119, 120, 121, 122], lowC c = true := by
  intro c hc
  rw [← low_mem]
  exact decide_eq_true hc
theorem lowL_of {l : List Nat} (h : ∀ c ∈ l, lowC c = true) : lowL l = true := List.all_eq_true.mpr h
theorem lowL_mem {l : List Nat} (h : lowL l = true) : ∀ c ∈ l, lowC c = true := List.all_eq_true.mp h
theorem sum_ones : ∀ cs : List Nat, ((cs.map fun c => [c]).map List.length).sum = cs.length
  | [] => rfl
  | c :: cs => by
    rw [List.map_cons, List.map_cons, List.sum_cons, sum_ones cs, List.length_cons]
    simp
    omega
theorem law_loop_ok {p : Addr} {n : Nat} (h : PotAt G p n) (hn : n < 10 ^ 19) (q : ∀ l G', LoopOk l → PotAt G' p (n + 50) → But p G G' → Q (.str l) G') : sp__law_loop K [.ref p] G ex Q := by
  have e19 : (10 : Nat) ^ 19 = 10000000000000000000 := by decide
  have e20 := p20
  refine fn_run rfl ?_
  dsimp only [r__law_loop, ini, nones, fnD, dSeq, dNext, dAsg, dAug, dDrop, dRet, dRetN, dIfS, dCB, dBM, dBM0, dCall, dMeth, dMake, dCons, dNil, dVar, slot, dC, dUn, dOp, dTest, dChain, dAnd, dOr, dNot, dAndV, dOrV, dNotV, dIf, dTup, dLst, dLstM, dPar, dDicNew, dSl, dSlM, dNoPart, dPart, dFld, dFldS, gName', gSub', gTup', gNames, tyD, List.map_cons, List.map_nil, List.replicate, List.cons_append, List.nil_append, List.length_cons, List.length_nil, List.set, e_add_int, e_add_str, e_add_tup, e_add_lst, e_iadd_int, e_iadd_str, e_sub, e_neg, e_mod, e_div, e_pow, e_mul_int, e_mul_str, e_mul_lst, e_mul_tup, e_lt_int, e_le_int, e_gt_int, e_ge_int, e_lt_str, e_eq_int, e_eq_str, e_ne_int, e_ne_str, e_in, e_notin, e_ix_str, e_ix_tup, e_ix_lst, e_ix_scr, e_sl_str, e_sl_tup, e_sl_lst, e_int_bl, e_int_int, e_max2, e_min2, oIs, oIsNot, true_and, and_true, Nat.zero_add, ↓reduceIte, Option.some.injEq, List.cons.injEq, D.str.injEq, D.int.injEq, D.bl.injEq, D.ref.injEq, exists_eq_left', exists_and_left, exists_eq_left]
  refine ⟨by decide, draw_ok h (by omega) (by decide) (by decide) fun d1 G1 a1 a2 h1 b1 => ?_⟩
  dsimp only [ini, nones, fnD, dSeq, dNext, dAsg, dAug, dDrop, dRet, dRetN, dIfS, dCB, dBM, dBM0, dCall, dMeth, dMake, dCons, dNil, dVar, slot, dC, dUn, dOp, dTest, dChain, dAnd, dOr, dNot, dAndV, dOrV, dNotV, dIf, dTup, dLst, dLstM, dPar, dDicNew, dSl, dSlM, dNoPart, dPart, dFld, dFldS, gName', gSub', gTup', gNames, tyD, List.map_cons, List.map_nil, List.replicate, List.cons_append, List.nil_append, List.length_cons, List.length_nil, List.set, e_add_int, e_add_str, e_add_tup, e_add_lst, e_iadd_int, e_iadd_str, e_sub, e_neg, e_mod, e_div, e_pow, e_mul_int, e_mul_str, e_mul_lst, e_mul_tup, e_lt_int, e_le_int, e_gt_int, e_ge_int, e_lt_str, e_eq_int, e_eq_str, e_ne_int, e_ne_str, e_in, e_notin, e_ix_str, e_ix_tup, e_ix_lst, e_ix_scr, e_sl_str, e_sl_tup, e_sl_lst, e_int_bl, e_int_int, e_max2, e_min2, oIs, oIsNot, true_and, and_true, Nat.zero_add, ↓reduceIte, Option.some.injEq, List.cons.injEq, D.str.injEq, D.int.injEq, D.bl.injEq, D.ref.injEq, exists_eq_left', exists_and_left, exists_eq_left]
  obtain ⟨m, hm, hm1, hm2⟩ : ∃ m : Int, atI [D.int 4, D.int 12] d1 = some (.int m) ∧ 4 ≤ m ∧ m ≤ 12 := by
    rcases (by omega : d1 = 0 ∨ d1 = 1) with rfl | rfl
    · exact ⟨4, rfl, by decide, by decide⟩
    · exact ⟨12, rfl, by decide, by decide⟩
  refine ⟨.int m, hm, ?_⟩
  refine draw_ok h1 (by omega) (by omega) (p100 (by omega)) fun many G2 c1 c2 h2 b2 => ?_
  dsimp only [ini, nones, fnD, dSeq, dNext, dAsg, dAug, dDrop, dRet, dRetN, dIfS, dCB, dBM, dBM0, dCall, dMeth, dMake, dCons, dNil, dVar, slot, dC, dUn, dOp, dTest, dChain, dAnd, dOr, dNot, dAndV, dOrV, dNotV, dIf, dTup, dLst, dLstM, dPar, dDicNew, dSl, dSlM, dNoPart, dPart, dFld, dFldS, gName', gSub', gTup', gNames, tyD, List.map_cons, List.map_nil, List.replicate, List.cons_append, List.nil_append, List.length_cons, List.length_nil, List.set, e_add_int, e_add_str, e_add_tup, e_add_lst, e_iadd_int, e_iadd_str, e_sub, e_neg, e_mod, e_div, e_pow, e_mul_int, e_mul_str, e_mul_lst, e_mul_tup, e_lt_int, e_le_int, e_gt_int, e_ge_int, e_lt_str, e_eq_int, e_eq_str, e_ne_int, e_ne_str, e_in, e_notin, e_ix_str, e_ix_tup, e_ix_lst, e_ix_scr, e_sl_str, e_sl_tup, e_sl_lst, e_int_bl, e_int_int, e_max2, e_min2, oIs, oIsNot, true_and, and_true, Nat.zero_add, ↓reduceIte, Option.some.injEq, List.cons.injEq, D.str.injEq, D.int.injEq, D.bl.injEq, D.ref.injEq, exists_eq_left', exists_and_left, exists_eq_left]
  refine ⟨by decide, ?_⟩
  refine draw_ok h2 (by omega) (by decide) (by decide) fun d3 G3 a5 a6 h3 b3 => ?_
  dsimp only [ini, nones, fnD, dSeq, dNext, dAsg, dAug, dDrop, dRet, dRetN, dIfS, dCB, dBM, dBM0, dCall, dMeth, dMake, dCons, dNil, dVar, slot, dC, dUn, dOp, dTest, dChain, dAnd, dOr, dNot, dAndV, dOrV, dNotV, dIf, dTup, dLst, dLstM, dPar, dDicNew, dSl, dSlM, dNoPart, dPart, dFld, dFldS, gName', gSub', gTup', gNames, tyD, List.map_cons, List.map_nil, List.replicate, List.cons_append, List.nil_append, List.length_cons, List.length_nil, List.set, e_add_int, e_add_str, e_add_tup, e_add_lst, e_iadd_int, e_iadd_str, e_sub, e_neg, e_mod, e_div, e_pow, e_mul_int, e_mul_str, e_mul_lst, e_mul_tup, e_lt_int, e_le_int, e_gt_int, e_ge_int, e_lt_str, e_eq_int, e_eq_str, e_ne_int, e_ne_str, e_in, e_notin, e_ix_str, e_ix_tup, e_ix_lst, e_ix_scr, e_sl_str, e_sl_tup, e_sl_lst, e_int_bl, e_int_int, e_max2, e_min2, oIs, oIsNot, true_and, and_true, Nat.zero_add, ↓reduceIte, Option.some.injEq, List.cons.injEq, D.str.injEq, D.int.injEq, D.bl.injEq, D.ref.injEq, exists_eq_left', exists_and_left, exists_eq_left]
  obtain ⟨k, hk, hk1, hk2⟩ : ∃ k : Int, atI [D.int 2, D.int 3, D.int 26] d3 = some (.int k) ∧ 2 ≤ k ∧ k ≤ 26 := by
    rcases (by omega : d3 = 0 ∨ d3 = 1 ∨ d3 = 2) with rfl | rfl | rfl
    · exact ⟨2, rfl, by decide, by decide⟩
    · exact ⟨3, rfl, by decide, by decide⟩
    · exact ⟨26, rfl, by decide, by decide⟩
  refine ⟨.int k, hk, by decide, ?_⟩
  rw [cut_to (by omega)]
  obtain ⟨abc, habc⟩ : ∃ abc, abc = ([97, 98, 99, 100, 101, 102, 103, 104, 105, 106, 107, 108, 109, 110, 111, 112, 113, 114, 115, 116, 117, 118, 119, 120, 121, 122] : List Nat) := ⟨_, rfl⟩
  have labc : abc.length = 26 := by rw [habc]; rfl
  have lowabc : ∀ c ∈ abc, lowC c = true := by rw [habc]; exact low_abc
  rw [← habc]
  refine ⟨rfl, ?_⟩
  dsimp only [dComp, dRng1, ini, nones, fnD, dSeq, dNext, dAsg, dAug, dDrop, dRet, dRetN, dIfS, dCB, dBM, dBM0, dCall, dMeth, dMake, dCons, dNil, dVar, slot, dC, dUn, dOp, dTest, dChain, dAnd, dOr, dNot, dAndV, dOrV, dNotV, dIf, dTup, dLst, dLstM, dPar, dDicNew, dSl, dSlM, dNoPart, dPart, dFld, dFldS, gName', gSub', gTup', gNames, tyD, List.map_cons, List.map_nil, List.replicate, List.cons_append, List.nil_append, List.length_cons, List.length_nil, List.set, e_add_int, e_add_str, e_add_tup, e_add_lst, e_iadd_int, e_iadd_str, e_sub, e_neg, e_mod, e_div, e_pow, e_mul_int, e_mul_str, e_mul_lst, e_mul_tup, e_lt_int, e_le_int, e_gt_int, e_ge_int, e_lt_str, e_eq_int, e_eq_str, e_ne_int, e_ne_str, e_in, e_notin, e_ix_str, e_ix_tup, e_ix_lst, e_ix_scr, e_sl_str, e_sl_tup, e_sl_lst, e_int_bl, e_int_int, e_max2, e_min2, oIs, oIsNot, true_and, and_true, Nat.zero_add, ↓reduceIte, Option.some.injEq, List.cons.injEq, D.str.injEq, D.int.injEq, D.bl.injEq, D.ref.injEq, exists_eq_left', exists_and_left, exists_eq_left]
  have lk : (abc.take k.toNat).length = k.toNat := by rw [List.length_take, labc]; omega
  refine ⟨by omega, ?_⟩
  have hlen : (numsFrom 0 (1 + many).toNat).length = (1 + many).toNat := numsFrom_len
  refine Y.turns_inv (fun i acc G' => ∃ cs : List Nat, acc = cs.map (fun c => D.str [c]) ∧ cs.length = i ∧ (∀ c ∈ cs, lowC c = true) ∧ PotAt G' p (n + 3 + i) ∧ But p G G') (i := 0) ⟨[], rfl, rfl, (fun c hc => absurd hc List.not_mem_nil), h3, (b1.trans b2).trans b3⟩ (by rw [hlen, List.length_nil]; omega) ?_ ?_
  · rintro j x acc G' hx ⟨cs, rfl, hc, hlow, hp, hb⟩ T Fs hT hF
    have hj : j < (1 + many).toNat := by rw [← hlen]; exact (List.getElem?_eq_some_iff.mp hx).1
    dsimp only [TK.d, dwipe, dYes, ini, nones, fnD, dSeq, dNext, dAsg, dAug, dDrop, dRet, dRetN, dIfS, dCB, dBM, dBM0, dCall, dMeth, dMake, dCons, dNil, dVar, slot, dC, dUn, dOp, dTest, dChain, dAnd, dOr, dNot, dAndV, dOrV, dNotV, dIf, dTup, dLst, dLstM, dPar, dDicNew, dSl, dSlM, dNoPart, dPart, dFld, dFldS, gName', gSub', gTup', gNames, tyD, List.map_cons, List.map_nil, List.replicate, List.cons_append, List.nil_append, List.length_cons, List.length_nil, List.set, e_add_int, e_add_str, e_add_tup, e_add_lst, e_iadd_int, e_iadd_str, e_sub, e_neg, e_mod, e_div, e_pow, e_mul_int, e_mul_str, e_mul_lst, e_mul_tup, e_lt_int, e_le_int, e_gt_int, e_ge_int, e_lt_str, e_eq_int, e_eq_str, e_ne_int, e_ne_str, e_in, e_notin, e_ix_str, e_ix_tup, e_ix_lst, e_ix_scr, e_sl_str, e_sl_tup, e_sl_lst, e_int_bl, e_int_int, e_max2, e_min2, oIs, oIsNot, true_and, and_true, Nat.zero_add, ↓reduceIte, Option.some.injEq, List.cons.injEq, D.str.injEq, D.int.injEq, D.bl.injEq, D.ref.injEq, exists_eq_left', exists_and_left, exists_eq_left]
    refine len_of (n := k.toNat) (by show some (abc.take k.toNat).length = _; rw [lk]) (by omega) ?_
    refine draw_ok hp (by omega) (by omega) (p100 (by omega)) fun d G4 f1 f2 h4 b4 => ?_
    dsimp only [ini, nones, fnD, dSeq, dNext, dAsg, dAug, dDrop, dRet, dRetN, dIfS, dCB, dBM, dBM0, dCall, dMeth, dMake, dCons, dNil, dVar, slot, dC, dUn, dOp, dTest, dChain, dAnd, dOr, dNot, dAndV, dOrV, dNotV, dIf, dTup, dLst, dLstM, dPar, dDicNew, dSl, dSlM, dNoPart, dPart, dFld, dFldS, gName', gSub', gTup', gNames, tyD, List.map_cons, List.map_nil, List.replicate, List.cons_append, List.nil_append, List.length_cons, List.length_nil, List.set, e_add_int, e_add_str, e_add_tup, e_add_lst, e_iadd_int, e_iadd_str, e_sub, e_neg, e_mod, e_div, e_pow, e_mul_int, e_mul_str, e_mul_lst, e_mul_tup, e_lt_int, e_le_int, e_gt_int, e_ge_int, e_lt_str, e_eq_int, e_eq_str, e_ne_int, e_ne_str, e_in, e_notin, e_ix_str, e_ix_tup, e_ix_lst, e_ix_scr, e_sl_str, e_sl_tup, e_sl_lst, e_int_bl, e_int_int, e_max2, e_min2, oIs, oIsNot, true_and, and_true, Nat.zero_add, ↓reduceIte, Option.some.injEq, List.cons.injEq, D.str.injEq, D.int.injEq, D.bl.injEq, D.ref.injEq, exists_eq_left', exists_and_left, exists_eq_left]
    have hd : d.toNat < (abc.take k.toNat).length := by rw [lk]; omega
    refine ⟨by rw [lk]; omega, _, atI_getD f1 hd, ?_⟩
    refine hT _ _ ⟨cs ++ [(abc.take k.toNat).getD d.toNat 0], by rw [List.map_append]; rfl, by rw [List.length_append, List.length_singleton]; omega, fun c hc2 => ?_, ?_, hb.trans b4⟩
    · rcases List.mem_append.mp hc2 with z | z
      · exact hlow c z
      · rw [List.mem_singleton.mp z]
        refine lowabc _ (List.mem_of_mem_take (i := k.toNat) ?_)
        exact List.mem_of_getElem? (getD_get hd)
    · rw [show n + 3 + (0 + j + 1) = n + 3 + (0 + j) + 1 by omega]
      exact h4
  · rintro acc G' ⟨cs, rfl, hc, hlow, hp, hb⟩
    rw [hlen, Nat.zero_add] at hc
    refine ⟨[], _, cs.map fun c => [c], rfl, rfl, ?_, ?_, ?_⟩
    · show some _ = some _
      rw [List.map_map]
      rfl
    · rw [sum_ones, List.length_nil]; omega
    rw [joinL_one]
    rw [hlen] at hp
    have hp2 : PotAt G' p (n + 20) := by
      obtain ⟨a, b, c, z1, z2, z3, z4, z5, z6⟩ := hp.ex
      exact ⟨a, b, c, z1, z2, z3, z4, z5, by omega⟩
    have cs0 : 0 < cs.length := by omega
    have cs1 : cs.length ≤ 12 := by omega
    refine draw_ok hp2 (by omega) (by decide) (by decide) fun d5 G5 f1 f2 h5 b5 => ?_
    have h5' : PotAt G5 p (n + 50) := by
      obtain ⟨a, b, c, z1, z2, z3, z4, z5, z6⟩ := h5.ex
      exact ⟨a, b, c, z1, z2, z3, z4, z5, by omega⟩
    dsimp only [ini, nones, fnD, dSeq, dNext, dAsg, dAug, dDrop, dRet, dRetN, dIfS, dCB, dBM, dBM0, dCall, dMeth, dMake, dCons, dNil, dVar, slot, dC, dUn, dOp, dTest, dChain, dAnd, dOr, dNot, dAndV, dOrV, dNotV, dIf, dTup, dLst, dLstM, dPar, dDicNew, dSl, dSlM, dNoPart, dPart, dFld, dFldS, gName', gSub', gTup', gNames, tyD, List.map_cons, List.map_nil, List.replicate, List.cons_append, List.nil_append, List.length_cons, List.length_nil, List.set, e_add_int, e_add_str, e_add_tup, e_add_lst, e_iadd_int, e_iadd_str, e_sub, e_neg, e_mod, e_div, e_pow, e_mul_int, e_mul_str, e_mul_lst, e_mul_tup, e_lt_int, e_le_int, e_gt_int, e_ge_int, e_lt_str, e_eq_int, e_eq_str, e_ne_int, e_ne_str, e_in, e_notin, e_ix_str, e_ix_tup, e_ix_lst, e_ix_scr, e_sl_str, e_sl_tup, e_sl_lst, e_int_bl, e_int_int, e_max2, e_min2, oIs, oIsNot, true_and, and_true, Nat.zero_add, ↓reduceIte, Option.some.injEq, List.cons.injEq, D.str.injEq, D.int.injEq, D.bl.injEq, D.ref.injEq, exists_eq_left', exists_and_left, exists_eq_left]
    by_cases hd : d5 = 0
    · rw [decide_eq_true hd]
      refine ⟨by omega, ?_⟩
      rw [cut_to (by decide)]
      refine ⟨by decide, len_of (d := .str cs) (n := cs.length) rfl (by omega) ?_⟩
      dsimp only [ini, nones, fnD, dSeq, dNext, dAsg, dAug, dDrop, dRet, dRetN, dIfS, dCB, dBM, dBM0, dCall, dMeth, dMake, dCons, dNil, dVar, slot, dC, dUn, dOp, dTest, dChain, dAnd, dOr, dNot, dAndV, dOrV, dNotV, dIf, dTup, dLst, dLstM, dPar, dDicNew, dSl, dSlM, dNoPart, dPart, dFld, dFldS, gName', gSub', gTup', gNames, tyD, List.map_cons, List.map_nil, List.replicate, List.cons_append, List.nil_append, List.length_cons, List.length_nil, List.set, e_add_int, e_add_str, e_add_tup, e_add_lst, e_iadd_int, e_iadd_str, e_sub, e_neg, e_mod, e_div, e_pow, e_mul_int, e_mul_str, e_mul_lst, e_mul_tup, e_lt_int, e_le_int, e_gt_int, e_ge_int, e_lt_str, e_eq_int, e_eq_str, e_ne_int, e_ne_str, e_in, e_notin, e_ix_str, e_ix_tup, e_ix_lst, e_ix_scr, e_sl_str, e_sl_tup, e_sl_lst, e_int_bl, e_int_int, e_max2, e_min2, oIs, oIsNot, true_and, and_true, Nat.zero_add, ↓reduceIte, Option.some.injEq, List.cons.injEq, D.str.injEq, D.int.injEq, D.bl.injEq, D.ref.injEq, exists_eq_left', exists_and_left, exists_eq_left]
      have t6 : (cs.take (6 : Int).toNat).length = min 6 cs.length := List.length_take
      have lw : ∀ c ∈ cs.take (6 : Int).toNat, lowC c = true := fun c hc => hlow c (List.mem_of_mem_take hc)
      by_cases h7 : (cs.length : Int) < 7
      · rw [decide_eq_true h7]
        refine ⟨.int 2, rfl, ?_⟩
        dsimp only [ini, nones, fnD, dSeq, dNext, dAsg, dAug, dDrop, dRet, dRetN, dIfS, dCB, dBM, dBM0, dCall, dMeth, dMake, dCons, dNil, dVar, slot, dC, dUn, dOp, dTest, dChain, dAnd, dOr, dNot, dAndV, dOrV, dNotV, dIf, dTup, dLst, dLstM, dPar, dDicNew, dSl, dSlM, dNoPart, dPart, dFld, dFldS, gName', gSub', gTup', gNames, tyD, List.map_cons, List.map_nil, List.replicate, List.cons_append, List.nil_append, List.length_cons, List.length_nil, List.set, e_add_int, e_add_str, e_add_tup, e_add_lst, e_iadd_int, e_iadd_str, e_sub, e_neg, e_mod, e_div, e_pow, e_mul_int, e_mul_str, e_mul_lst, e_mul_tup, e_lt_int, e_le_int, e_gt_int, e_ge_int, e_lt_str, e_eq_int, e_eq_str, e_ne_int, e_ne_str, e_in, e_notin, e_ix_str, e_ix_tup, e_ix_lst, e_ix_scr, e_sl_str, e_sl_tup, e_sl_lst, e_int_bl, e_int_int, e_max2, e_min2, oIs, oIsNot, true_and, and_true, Nat.zero_add, ↓reduceIte, Option.some.injEq, List.cons.injEq, D.str.injEq, D.int.injEq, D.bl.injEq, D.ref.injEq, exists_eq_left', exists_and_left, exists_eq_left]
        have e2 : rep (2 : Int).toNat (cs.take (6 : Int).toNat) = cs.take (6 : Int).toNat ++ cs.take (6 : Int).toNat := by
          show (List.replicate 2 _).flatten = _
          simp
        refine ⟨⟨by decide, by rw [t6]; show min 6 cs.length * 2 ≤ _; omega, by decide⟩, ?_⟩
        rw [e2]
        refine q _ _ ⟨lowL_of fun c hc => ?_, ?_, ?_⟩ h5' (hb.trans b5)
        · rcases List.mem_append.mp hc with z | z <;> exact lw c z
        · rw [List.length_append]; omega
        · rw [List.length_append]; omega
      · rw [decide_eq_false h7]
        refine ⟨.int 1, rfl, ?_⟩
        dsimp only [ini, nones, fnD, dSeq, dNext, dAsg, dAug, dDrop, dRet, dRetN, dIfS, dCB, dBM, dBM0, dCall, dMeth, dMake, dCons, dNil, dVar, slot, dC, dUn, dOp, dTest, dChain, dAnd, dOr, dNot, dAndV, dOrV, dNotV, dIf, dTup, dLst, dLstM, dPar, dDicNew, dSl, dSlM, dNoPart, dPart, dFld, dFldS, gName', gSub', gTup', gNames, tyD, List.map_cons, List.map_nil, List.replicate, List.cons_append, List.nil_append, List.length_cons, List.length_nil, List.set, e_add_int, e_add_str, e_add_tup, e_add_lst, e_iadd_int, e_iadd_str, e_sub, e_neg, e_mod, e_div, e_pow, e_mul_int, e_mul_str, e_mul_lst, e_mul_tup, e_lt_int, e_le_int, e_gt_int, e_ge_int, e_lt_str, e_eq_int, e_eq_str, e_ne_int, e_ne_str, e_in, e_notin, e_ix_str, e_ix_tup, e_ix_lst, e_ix_scr, e_sl_str, e_sl_tup, e_sl_lst, e_int_bl, e_int_int, e_max2, e_min2, oIs, oIsNot, true_and, and_true, Nat.zero_add, ↓reduceIte, Option.some.injEq, List.cons.injEq, D.str.injEq, D.int.injEq, D.bl.injEq, D.ref.injEq, exists_eq_left', exists_and_left, exists_eq_left]
        have e2 : rep (1 : Int).toNat (cs.take (6 : Int).toNat) = cs.take (6 : Int).toNat := by
          show (List.replicate 1 _).flatten = _
          simp
        refine ⟨⟨by decide, by rw [t6]; show min 6 cs.length * 1 ≤ _; omega, by decide⟩, ?_⟩
        rw [e2]
        exact q _ _ ⟨lowL_of lw, by omega, by omega⟩ h5' (hb.trans b5)
    · rw [decide_eq_false hd]
      exact q _ _ ⟨lowL_of hlow, cs0, cs1⟩ h5' (hb.trans b5)
end Wk
/-! Q5: known words that are drawn. -/
namespace Wk
open PySem PySem.Spec PyProof.Rows L2 Y Mw
variable {K : PySem.W.Frag} {G : Gp} {ex : DX} {Q : DK}

/-- what stood elsewhere stands -/
def Ext (p : Addr) (G G' : Gp) : Prop := ∀ a o, a ≠ p → G a = some o → G' a = some o
theorem rise_of : ∀ {ys : List (List Nat)}, sortedS (ys.map St) = true → ys.Nodup → ys.Pairwise (· < ·)
  | [], _, _ => .nil
  | x :: ys, h, nd => by
    have key : ∀ (p : List Nat) (zs : List (List Nat)), risingS (St p) (zs.map St) = true → (p :: zs).Nodup → (p :: zs).Pairwise (· < ·) := by
      intro p zs
      induction zs generalizing p with
      | nil => intro _ _; exact List.pairwise_cons.mpr ⟨fun _ hz => (by cases hz), .nil⟩
      | cons z zs ih =>
        intro hr hn
        have hr' : (!Spec.ltCps (St z).cps.toList (St p).cps.toList && risingS (St z) (zs.map St)) = true := hr
        rw [Bool.and_eq_true, ltCps_eq] at hr'
        have e1 : (St z).cps.toList = z := by simp
        have e2 : (St p).cps.toList = p := by simp
        rw [e1, e2] at hr'
        have h1 : ¬ z < p := by simpa using hr'.1
        have hn2 := List.nodup_cons.mp hn
        have hpz : p < z := Std.lt_of_le_of_ne (List.not_lt.mp h1) fun e => hn2.1 (by rw [e]; exact List.mem_cons_self)
        have pw := ih z hr'.2 hn2.2
        refine List.pairwise_cons.mpr ⟨fun y hy => ?_, pw⟩
        rcases List.mem_cons.mp hy with e | e
        · rw [e]; exact hpz
        · exact List.lt_trans hpz ((List.pairwise_cons.mp pw).1 y e)
    exact key x ys h nd
theorem dput_keys {kvs : List (DKey × D)} {k : DKey} {v : D} : (dput kvs k v).map (·.1) = if dhas kvs k = true then kvs.map (·.1) else kvs.map (·.1) ++ [k] := by
  unfold dput
  by_cases c : dhas kvs k = true
  · rw [if_pos c, if_pos c, List.map_map]
    refine List.map_congr_left fun p _ => ?_
    show (if p.1 = k then (p.1, v) else p).1 = p.1
    split <;> rfl
  · rw [if_neg c, if_neg c, List.map_append]
    rfl
theorem dhas_keys {kvs : List (DKey × D)} {ss : List (List Nat)} {w : List Nat} (h : kvs.map (·.1) = ss.map Sum.inr) : (dhas kvs (.inr w) = true) ↔ w ∈ ss := by
  unfold dhas
  rw [List.any_eq_true]
  constructor
  · rintro ⟨p, hp, e⟩
    have e1 : p.1 = .inr w := of_decide_eq_true e
    have : (Sum.inr w : DKey) ∈ ss.map Sum.inr := by rw [← h, ← e1]; exact List.mem_map_of_mem hp
    obtain ⟨s, hs, e2⟩ := List.mem_map.mp this
    cases e2
    exact hs
  · intro hw
    have : (Sum.inr w : DKey) ∈ kvs.map (·.1) := by rw [h]; exact List.mem_map_of_mem hw
    obtain ⟨p, hp, e⟩ := List.mem_map.mp this
    exact ⟨p, hp, decide_eq_true e⟩
/-- the words in the making -/
structure Wds (kvs : List (DKey × D)) (ss : List (List Nat)) : Prop where
  key : kvs.map (·.1) = ss.map Sum.inr
  nd : ss.Nodup
  let_ : ∀ w ∈ ss, lowL w = true ∧ w ≠ [] ∧ w.length ≤ 400
  pre : ∀ w ∈ ss, w.length = 1 ∨ w.dropLast ∈ ss
theorem Wds.len {kvs : List (DKey × D)} {ss : List (List Nat)} (h : Wds kvs ss) : kvs.length = ss.length := by
  have := congrArg List.length h.key
  rwa [List.length_map, List.length_map] at this
theorem Wds.put {kvs : List (DKey × D)} {ss : List (List Nat)} {w : List Nat} (h : Wds kvs ss) (h1 : lowL w = true) (h2 : w ≠ []) (h3 : w.length ≤ 400) (h4 : w.length = 1 ∨ w.dropLast ∈ ss) :
    ∃ ss', Wds (dput kvs (.inr w) (.bl true)) ss' ∧ ss'.length ≤ ss.length + 1 ∧ w ∈ ss' := by
  by_cases c : w ∈ ss
  · refine ⟨ss, ⟨?_, h.nd, h.let_, h.pre⟩, by omega, c⟩
    rw [dput_keys, if_pos ((dhas_keys h.key).mpr c), h.key]
  · refine ⟨ss ++ [w], ⟨?_, ?_, fun v hv => ?_, fun v hv => ?_⟩, by rw [List.length_append, List.length_singleton]; omega, by simp⟩
    · rw [dput_keys, if_neg fun z => c ((dhas_keys h.key).mp z), h.key, List.map_append]
      rfl
    · rw [List.nodup_append]
      refine ⟨h.nd, by simp, fun a ha b hb e => ?_⟩
      rw [List.mem_singleton] at hb
      rw [e, hb] at ha
      exact c ha
    · rcases List.mem_append.mp hv with z | z
      · exact h.let_ v z
      · rw [List.mem_singleton.mp z]; exact ⟨h1, h2, h3⟩
    · rcases List.mem_append.mp hv with z | z
      · exact (h.pre v z).imp id fun z => List.mem_append_left _ z
      · rw [List.mem_singleton.mp z]; exact h4.imp id fun z => List.mem_append_left _ z
theorem PotAt.mono {p : Addr} {n m : Nat} (h : PotAt G p n) (hm : n ≤ m) : PotAt G p m := by
  obtain ⟨a, b, c, z1, z2, z3, z4, z5, z6⟩ := h.ex
  exact ⟨a, b, c, z1, z2, z3, z4, z5, by omega⟩
theorem PotAt.eq {p : Addr} {n : Nat} {G' : Gp} (h : PotAt G p n) (e : G' p = G p) : PotAt G' p n := by
  obtain ⟨a, b, c, z1, z2⟩ := h.ex
  exact ⟨a, b, c, by rw [e]; exact z1, z2⟩
/-- where the drawing of known words stands -/
structure Mk1 (G0 : Gp) (p t : Addr) (n : Nat) (G : Gp) (most : Nat) : Prop where
  pot : PotAt G p n
  ex : ∃ kvs ss, G t = some (.dic kvs) ∧ Wds kvs ss ∧ ss.length ≤ most
  ext : ∀ a, a ≠ p → a ≠ t → G a = G0 a
theorem Mk1.draw {G0 G' : Gp} {p t : Addr} {n : Nat} {most : Nat} (hpt : p ≠ t) (h : Mk1 G0 p t n G most) (hp : PotAt G' p (n + 1)) (hb : But p G G') : Mk1 G0 p t (n + 1) G' most := by
  obtain ⟨kvs, ss, e1, e2, e3⟩ := h.ex
  exact ⟨hp, ⟨kvs, ss, by rw [hb t (Ne.symm hpt)]; exact e1, e2, e3⟩, fun a h1 h2 => (hb a h1).trans (h.ext a h1 h2)⟩
theorem law_known_ok {p : Addr} {n : Nat} {l : List Nat} (h : PotAt G p n) (hn : n < 10 ^ 19) (hl : LoopOk l) (q : ∀ ws G', KnownOk ws → (∀ w ∈ ws, w.length ≤ 400) → ws.length ≤ 360 → PotAt G' p (n + 100) → Ext p G G' → Q (.tup (ws.map D.str)) G') : sp__law_known K [.ref p, .str l] G ex Q := by
  have e19 : (10 : Nat) ^ 19 = 10000000000000000000 := by decide
  have e20 := p20
  have l1 := hl.pos
  have l2 := hl.few
  refine fn_run rfl ?_
  dsimp only [r__law_known, ini, nones, fnD, dSeq, dNext, dAsg, dAug, dDrop, dRet, dRetN, dIfS, dCB, dBM, dBM0, dCall, dMeth, dMake, dCons, dNil, dVar, slot, dC, dUn, dOp, dTest, dChain, dAnd, dOr, dNot, dAndV, dOrV, dNotV, dIf, dTup, dLst, dLstM, dPar, dDicNew, dSl, dSlM, dNoPart, dPart, dFld, dFldS, gName', gSub', gTup', gNames, tyD, List.map_cons, List.map_nil, List.replicate, List.cons_append, List.nil_append, List.length_cons, List.length_nil, List.set, e_add_int, e_add_str, e_add_tup, e_add_lst, e_iadd_int, e_iadd_str, e_sub, e_neg, e_mod, e_div, e_pow, e_mul_int, e_mul_str, e_mul_lst, e_mul_tup, e_lt_int, e_le_int, e_gt_int, e_ge_int, e_lt_str, e_eq_int, e_eq_str, e_ne_int, e_ne_str, e_in, e_notin, e_ix_str, e_ix_tup, e_ix_lst, e_ix_scr, e_sl_str, e_sl_tup, e_sl_lst, e_int_bl, e_int_int, e_max2, e_min2, oIs, oIsNot, true_and, and_true, Nat.zero_add, ↓reduceIte, Option.some.injEq, List.cons.injEq, D.str.injEq, D.int.injEq, D.bl.injEq, D.ref.injEq, exists_eq_left', exists_and_left, exists_eq_left]
  intro t ht
  have hpt : p ≠ t := fun e => by
    obtain ⟨a, b, c, z, _⟩ := h.ex
    rw [e, ht] at z
    cases z
  have m0 : Mk1 G p t n (G.set t (.dic [])) 0 := ⟨h.eq (Gp.set_ne hpt), ⟨[], [], Gp.set_same, ⟨rfl, .nil, fun _ hw => absurd hw List.not_mem_nil, fun _ hw => absurd hw List.not_mem_nil⟩, Nat.le_refl _⟩, fun a _ h2 => Gp.set_ne h2⟩
  dsimp only [dFor, dRng1, ini, nones, fnD, dSeq, dNext, dAsg, dAug, dDrop, dRet, dRetN, dIfS, dCB, dBM, dBM0, dCall, dMeth, dMake, dCons, dNil, dVar, slot, dC, dUn, dOp, dTest, dChain, dAnd, dOr, dNot, dAndV, dOrV, dNotV, dIf, dTup, dLst, dLstM, dPar, dDicNew, dSl, dSlM, dNoPart, dPart, dFld, dFldS, gName', gSub', gTup', gNames, tyD, List.map_cons, List.map_nil, List.replicate, List.cons_append, List.nil_append, List.length_cons, List.length_nil, List.set, e_add_int, e_add_str, e_add_tup, e_add_lst, e_iadd_int, e_iadd_str, e_sub, e_neg, e_mod, e_div, e_pow, e_mul_int, e_mul_str, e_mul_lst, e_mul_tup, e_lt_int, e_le_int, e_gt_int, e_ge_int, e_lt_str, e_eq_int, e_eq_str, e_ne_int, e_ne_str, e_in, e_notin, e_ix_str, e_ix_tup, e_ix_lst, e_ix_scr, e_sl_str, e_sl_tup, e_sl_lst, e_int_bl, e_int_int, e_max2, e_min2, oIs, oIsNot, true_and, and_true, Nat.zero_add, ↓reduceIte, Option.some.injEq, List.cons.injEq, D.str.injEq, D.int.injEq, D.bl.injEq, D.ref.injEq, exists_eq_left', exists_and_left, exists_eq_left]
  refine draw_ok m0.pot (by omega) (by decide) (by decide) fun d1 G1 a1 a2 h1 b1 => ?_
  have m1 := m0.draw hpt h1 b1
  refine ⟨by omega, ?_⟩
  have hlen : (numsFrom 0 d1.toNat).length = d1.toNat := numsFrom_len
  refine for_inv (fun i σ G' => (∃ a b c d e, σ = [some (.ref p), some (.str l), some (.ref t), a, b, c, d, e]) ∧ ∃ most, most ≤ 360 ∧ Mk1 G p t (n + 1 + 10 * i) G' most) (i := 0) ⟨⟨_, _, _, _, _, rfl⟩, 0, by omega, m1⟩ ?_ ?_
  · rintro j x σ G' hx ⟨⟨a, b, c, d, e, rfl⟩, most, hm, mk⟩ N hN
    have hj : j < d1.toNat := by rw [← hlen]; exact (List.getElem?_eq_some_iff.mp hx).1
    rw [numsFrom_get hj] at hx
    cases hx
    dsimp only [ini, nones, fnD, dSeq, dNext, dAsg, dAug, dDrop, dRet, dRetN, dIfS, dCB, dBM, dBM0, dCall, dMeth, dMake, dCons, dNil, dVar, slot, dC, dUn, dOp, dTest, dChain, dAnd, dOr, dNot, dAndV, dOrV, dNotV, dIf, dTup, dLst, dLstM, dPar, dDicNew, dSl, dSlM, dNoPart, dPart, dFld, dFldS, gName', gSub', gTup', gNames, tyD, List.map_cons, List.map_nil, List.replicate, List.cons_append, List.nil_append, List.length_cons, List.length_nil, List.set, e_add_int, e_add_str, e_add_tup, e_add_lst, e_iadd_int, e_iadd_str, e_sub, e_neg, e_mod, e_div, e_pow, e_mul_int, e_mul_str, e_mul_lst, e_mul_tup, e_lt_int, e_le_int, e_gt_int, e_ge_int, e_lt_str, e_eq_int, e_eq_str, e_ne_int, e_ne_str, e_in, e_notin, e_ix_str, e_ix_tup, e_ix_lst, e_ix_scr, e_sl_str, e_sl_tup, e_sl_lst, e_int_bl, e_int_int, e_max2, e_min2, oIs, oIsNot, true_and, and_true, Nat.zero_add, ↓reduceIte, Option.some.injEq, List.cons.injEq, D.str.injEq, D.int.injEq, D.bl.injEq, D.ref.injEq, exists_eq_left', exists_and_left, exists_eq_left]
    refine len_of (d := .str l) (n := l.length) rfl (by omega) ?_
    refine draw_ok mk.pot (by omega) (by omega) (p100 (by omega)) fun place G2 c1 c2 h2 b2 => ?_
    have m2 := mk.draw hpt h2 b2
    dsimp only [ini, nones, fnD, dSeq, dNext, dAsg, dAug, dDrop, dRet, dRetN, dIfS, dCB, dBM, dBM0, dCall, dMeth, dMake, dCons, dNil, dVar, slot, dC, dUn, dOp, dTest, dChain, dAnd, dOr, dNot, dAndV, dOrV, dNotV, dIf, dTup, dLst, dLstM, dPar, dDicNew, dSl, dSlM, dNoPart, dPart, dFld, dFldS, gName', gSub', gTup', gNames, tyD, List.map_cons, List.map_nil, List.replicate, List.cons_append, List.nil_append, List.length_cons, List.length_nil, List.set, e_add_int, e_add_str, e_add_tup, e_add_lst, e_iadd_int, e_iadd_str, e_sub, e_neg, e_mod, e_div, e_pow, e_mul_int, e_mul_str, e_mul_lst, e_mul_tup, e_lt_int, e_le_int, e_gt_int, e_ge_int, e_lt_str, e_eq_int, e_eq_str, e_ne_int, e_ne_str, e_in, e_notin, e_ix_str, e_ix_tup, e_ix_lst, e_ix_scr, e_sl_str, e_sl_tup, e_sl_lst, e_int_bl, e_int_int, e_max2, e_min2, oIs, oIsNot, true_and, and_true, Nat.zero_add, ↓reduceIte, Option.some.injEq, List.cons.injEq, D.str.injEq, D.int.injEq, D.bl.injEq, D.ref.injEq, exists_eq_left', exists_and_left, exists_eq_left]
    refine ⟨by decide, ?_⟩
    obtain ⟨m40, e40, m40a, m40b⟩ : ∃ m40 : Int, atI [D.int 40, D.int 360] (if decide (0 + (j : Int) = 0) = true then 1 else 0) = some (.int m40) ∧ 40 ≤ m40 ∧ m40 ≤ 360 := by
      by_cases z : (0 + (j : Int)) = 0
      · rw [decide_eq_true z]
        exact ⟨360, rfl, by decide, by decide⟩
      · rw [decide_eq_false z]
        exact ⟨40, rfl, by decide, by decide⟩
    refine ⟨.int m40, e40, ?_⟩
    refine ⟨by decide, ?_⟩
    refine draw_ok m2.pot (by omega) (by decide) (by decide) fun d3 G3 f1 f2 h3 b3 => ?_
    have m3 := m2.draw hpt h3 b3
    dsimp only [ini, nones, fnD, dSeq, dNext, dAsg, dAug, dDrop, dRet, dRetN, dIfS, dCB, dBM, dBM0, dCall, dMeth, dMake, dCons, dNil, dVar, slot, dC, dUn, dOp, dTest, dChain, dAnd, dOr, dNot, dAndV, dOrV, dNotV, dIf, dTup, dLst, dLstM, dPar, dDicNew, dSl, dSlM, dNoPart, dPart, dFld, dFldS, gName', gSub', gTup', gNames, tyD, List.map_cons, List.map_nil, List.replicate, List.cons_append, List.nil_append, List.length_cons, List.length_nil, List.set, e_add_int, e_add_str, e_add_tup, e_add_lst, e_iadd_int, e_iadd_str, e_sub, e_neg, e_mod, e_div, e_pow, e_mul_int, e_mul_str, e_mul_lst, e_mul_tup, e_lt_int, e_le_int, e_gt_int, e_ge_int, e_lt_str, e_eq_int, e_eq_str, e_ne_int, e_ne_str, e_in, e_notin, e_ix_str, e_ix_tup, e_ix_lst, e_ix_scr, e_sl_str, e_sl_tup, e_sl_lst, e_int_bl, e_int_int, e_max2, e_min2, oIs, oIsNot, true_and, and_true, Nat.zero_add, ↓reduceIte, Option.some.injEq, List.cons.injEq, D.str.injEq, D.int.injEq, D.bl.injEq, D.ref.injEq, exists_eq_left', exists_and_left, exists_eq_left]
    obtain ⟨mo, hmo, mo1, mo2⟩ : ∃ mo : Int, atI [D.int 3, D.int 12, D.int 40, D.int m40] d3 = some (.int mo) ∧ 1 ≤ mo ∧ mo ≤ 360 := by
      rcases (by omega : d3 = 0 ∨ d3 = 1 ∨ d3 = 2 ∨ d3 = 3) with rfl | rfl | rfl | rfl
      · exact ⟨3, rfl, by decide, by decide⟩
      · exact ⟨12, rfl, by decide, by decide⟩
      · exact ⟨40, rfl, by decide, by decide⟩
      · exact ⟨m40, rfl, by omega, by omega⟩
    refine ⟨.int mo, hmo, ⟨by decide, by show l.length * 400 ≤ _; omega, by decide⟩, ?_⟩
    have rl : (rep (400 : Int).toNat l).length = 400 * l.length := rep_len ..
    refine ⟨by rw [rl]; omega, ?_⟩
    rw [cut_from c1]
    refine draw_ok m3.pot (by omega) (by omega) (p100 (by omega)) fun d4 G4 g1 g2 h4 b4 => ?_
    have m4 := m3.draw hpt h4 b4
    dsimp only [ini, nones, fnD, dSeq, dNext, dAsg, dAug, dDrop, dRet, dRetN, dIfS, dCB, dBM, dBM0, dCall, dMeth, dMake, dCons, dNil, dVar, slot, dC, dUn, dOp, dTest, dChain, dAnd, dOr, dNot, dAndV, dOrV, dNotV, dIf, dTup, dLst, dLstM, dPar, dDicNew, dSl, dSlM, dNoPart, dPart, dFld, dFldS, gName', gSub', gTup', gNames, tyD, List.map_cons, List.map_nil, List.replicate, List.cons_append, List.nil_append, List.length_cons, List.length_nil, List.set, e_add_int, e_add_str, e_add_tup, e_add_lst, e_iadd_int, e_iadd_str, e_sub, e_neg, e_mod, e_div, e_pow, e_mul_int, e_mul_str, e_mul_lst, e_mul_tup, e_lt_int, e_le_int, e_gt_int, e_ge_int, e_lt_str, e_eq_int, e_eq_str, e_ne_int, e_ne_str, e_in, e_notin, e_ix_str, e_ix_tup, e_ix_lst, e_ix_scr, e_sl_str, e_sl_tup, e_sl_lst, e_int_bl, e_int_int, e_max2, e_min2, oIs, oIsNot, true_and, and_true, Nat.zero_add, ↓reduceIte, Option.some.injEq, List.cons.injEq, D.str.injEq, D.int.injEq, D.bl.injEq, D.ref.injEq, exists_eq_left', exists_and_left, exists_eq_left]
    refine ⟨by rw [List.length_drop, rl]; omega, ?_⟩
    rw [cut_to (by omega)]
    obtain ⟨wo, hwo⟩ : ∃ wo, wo = ((rep (400 : Int).toNat l).drop place.toNat).take (1 + d4).toNat := ⟨_, rfl⟩
    have wol : wo.length = (1 + d4).toNat := by rw [hwo, List.length_take, List.length_drop, rl]; omega
    have wolow : ∀ c ∈ wo, lowC c = true := fun c hc => by
      rw [hwo] at hc
      have hc2 := List.mem_of_mem_drop (List.mem_of_mem_take hc)
      unfold rep at hc2
      obtain ⟨z, hz, hcz⟩ := List.mem_flatten.mp hc2
      rw [(List.mem_replicate.mp hz).2] at hcz
      exact lowL_mem hl.low c hcz
    rw [← hwo]
    refine draw_ok m4.pot (by omega) (by decide) (by decide) fun d5 G5 g3 g4 h5 b5 => ?_
    have m5 := m4.draw hpt h5 b5
    dsimp only [ini, nones, fnD, dSeq, dNext, dAsg, dAug, dDrop, dRet, dRetN, dIfS, dCB, dBM, dBM0, dCall, dMeth, dMake, dCons, dNil, dVar, slot, dC, dUn, dOp, dTest, dChain, dAnd, dOr, dNot, dAndV, dOrV, dNotV, dIf, dTup, dLst, dLstM, dPar, dDicNew, dSl, dSlM, dNoPart, dPart, dFld, dFldS, gName', gSub', gTup', gNames, tyD, List.map_cons, List.map_nil, List.replicate, List.cons_append, List.nil_append, List.length_cons, List.length_nil, List.set, e_add_int, e_add_str, e_add_tup, e_add_lst, e_iadd_int, e_iadd_str, e_sub, e_neg, e_mod, e_div, e_pow, e_mul_int, e_mul_str, e_mul_lst, e_mul_tup, e_lt_int, e_le_int, e_gt_int, e_ge_int, e_lt_str, e_eq_int, e_eq_str, e_ne_int, e_ne_str, e_in, e_notin, e_ix_str, e_ix_tup, e_ix_lst, e_ix_scr, e_sl_str, e_sl_tup, e_sl_lst, e_int_bl, e_int_int, e_max2, e_min2, oIs, oIsNot, true_and, and_true, Nat.zero_add, ↓reduceIte, Option.some.injEq, List.cons.injEq, D.str.injEq, D.int.injEq, D.bl.injEq, D.ref.injEq, exists_eq_left', exists_and_left, exists_eq_left]
    -- the words that are put in, by size
    have tail : ∀ (v : List Nat) (G6 : Gp) (a : Option D) (n6 : Nat), (∀ c ∈ v, lowC c = true) → 0 < v.length → v.length ≤ 370 → n6 ≤ n + 1 + 10 * (0 + j + 1) → Mk1 G p t n6 G6 most →
        dFor (dRng2 (dC (.int 1)) (dOp oAdd (dCB cMin2 (dCons (dCB cLen (dCons (dVar 6) dNil)) (dCons (dOp oSub (dC (.int 360)) (dCB cLen (dCons (dVar 2) dNil))) dNil))) (dC (.int 1)))) (gName' 7) (dSeq (dAsg (dC (.bl true)) (gSub' (dVar 2) (dSl (dVar 6) dNoPart (dPart (dVar 7))))) dNext)
          { nx := N, rt := Q, bk := fun σ G' => dRet (dCB cTup (dCons (dCB cSort (dCons (dVar 2) dNil)) dNil)) { nx := dNext { nx := fun _ G' => Q .non G', rt := Q, ex := ex }, rt := Q, ex := ex } σ G', ct := N, ex := ex } [some (.ref p), some (.str l), some (.ref t), some (.int (0 + (j : Int))), some (.int place), some (.int mo), some (.str v), a] G6 := by
      intro v G6 a n6 hv hv1 hv2 hn6 m6
      obtain ⟨kvs, ss, hG, hw, hs⟩ := m6.ex
      dsimp only [dFor, dRng2, ini, nones, fnD, dSeq, dNext, dAsg, dAug, dDrop, dRet, dRetN, dIfS, dCB, dBM, dBM0, dCall, dMeth, dMake, dCons, dNil, dVar, slot, dC, dUn, dOp, dTest, dChain, dAnd, dOr, dNot, dAndV, dOrV, dNotV, dIf, dTup, dLst, dLstM, dPar, dDicNew, dSl, dSlM, dNoPart, dPart, dFld, dFldS, gName', gSub', gTup', gNames, tyD, List.map_cons, List.map_nil, List.replicate, List.cons_append, List.nil_append, List.length_cons, List.length_nil, List.set, e_add_int, e_add_str, e_add_tup, e_add_lst, e_iadd_int, e_iadd_str, e_sub, e_neg, e_mod, e_div, e_pow, e_mul_int, e_mul_str, e_mul_lst, e_mul_tup, e_lt_int, e_le_int, e_gt_int, e_ge_int, e_lt_str, e_eq_int, e_eq_str, e_ne_int, e_ne_str, e_in, e_notin, e_ix_str, e_ix_tup, e_ix_lst, e_ix_scr, e_sl_str, e_sl_tup, e_sl_lst, e_int_bl, e_int_int, e_max2, e_min2, oIs, oIsNot, true_and, and_true, Nat.zero_add, ↓reduceIte, Option.some.injEq, List.cons.injEq, D.str.injEq, D.int.injEq, D.bl.injEq, D.ref.injEq, exists_eq_left', exists_and_left, exists_eq_left]
      refine len_of (d := .str v) (n := v.length) rfl (by omega) ?_
      refine len_of (d := .ref t) (n := kvs.length) (by show (match G6 t with | some (.lst ds) => some ds.length | some (.dic kvs) => some kvs.length | _ => none) = _; rw [hG]) (by rw [hw.len]; omega) ?_
      dsimp only [ini, nones, fnD, dSeq, dNext, dAsg, dAug, dDrop, dRet, dRetN, dIfS, dCB, dBM, dBM0, dCall, dMeth, dMake, dCons, dNil, dVar, slot, dC, dUn, dOp, dTest, dChain, dAnd, dOr, dNot, dAndV, dOrV, dNotV, dIf, dTup, dLst, dLstM, dPar, dDicNew, dSl, dSlM, dNoPart, dPart, dFld, dFldS, gName', gSub', gTup', gNames, tyD, List.map_cons, List.map_nil, List.replicate, List.cons_append, List.nil_append, List.length_cons, List.length_nil, List.set, e_add_int, e_add_str, e_add_tup, e_add_lst, e_iadd_int, e_iadd_str, e_sub, e_neg, e_mod, e_div, e_pow, e_mul_int, e_mul_str, e_mul_lst, e_mul_tup, e_lt_int, e_le_int, e_gt_int, e_ge_int, e_lt_str, e_eq_int, e_eq_str, e_ne_int, e_ne_str, e_in, e_notin, e_ix_str, e_ix_tup, e_ix_lst, e_ix_scr, e_sl_str, e_sl_tup, e_sl_lst, e_int_bl, e_int_int, e_max2, e_min2, oIs, oIsNot, true_and, and_true, Nat.zero_add, ↓reduceIte, Option.some.injEq, List.cons.injEq, D.str.injEq, D.int.injEq, D.bl.injEq, D.ref.injEq, exists_eq_left', exists_and_left, exists_eq_left]
      refine min2_of ?_
      dsimp only [ini, nones, fnD, dSeq, dNext, dAsg, dAug, dDrop, dRet, dRetN, dIfS, dCB, dBM, dBM0, dCall, dMeth, dMake, dCons, dNil, dVar, slot, dC, dUn, dOp, dTest, dChain, dAnd, dOr, dNot, dAndV, dOrV, dNotV, dIf, dTup, dLst, dLstM, dPar, dDicNew, dSl, dSlM, dNoPart, dPart, dFld, dFldS, gName', gSub', gTup', gNames, tyD, List.map_cons, List.map_nil, List.replicate, List.cons_append, List.nil_append, List.length_cons, List.length_nil, List.set, e_add_int, e_add_str, e_add_tup, e_add_lst, e_iadd_int, e_iadd_str, e_sub, e_neg, e_mod, e_div, e_pow, e_mul_int, e_mul_str, e_mul_lst, e_mul_tup, e_lt_int, e_le_int, e_gt_int, e_ge_int, e_lt_str, e_eq_int, e_eq_str, e_ne_int, e_ne_str, e_in, e_notin, e_ix_str, e_ix_tup, e_ix_lst, e_ix_scr, e_sl_str, e_sl_tup, e_sl_lst, e_int_bl, e_int_int, e_max2, e_min2, oIs, oIsNot, true_and, and_true, Nat.zero_add, ↓reduceIte, Option.some.injEq, List.cons.injEq, D.str.injEq, D.int.injEq, D.bl.injEq, D.ref.injEq, exists_eq_left', exists_and_left, exists_eq_left]
      have hwl := hw.len
      obtain ⟨cnt, hcnt, cnt1, cnt2⟩ : ∃ cnt : Nat, ((if 360 - (kvs.length : Int) < (v.length : Int) then 360 - (kvs.length : Int) else (v.length : Int)) + 1 : Int) = (cnt : Int) + 1 ∧ cnt ≤ v.length ∧ cnt + kvs.length ≤ 360 := by
        by_cases z : 360 - (kvs.length : Int) < (v.length : Int)
        · rw [if_pos z]
          exact ⟨(360 - (kvs.length : Int)).toNat, by omega, by omega, by omega⟩
        · rw [if_neg z]
          exact ⟨v.length, rfl, Nat.le_refl _, by omega⟩
      rw [hcnt]
      refine ⟨by omega, ?_⟩
      have hl2 : (numsFrom 1 ((cnt : Int) + 1 - 1).toNat).length = cnt := by rw [numsFrom_len]; omega
      refine for_inv (fun i σ G7 => (∃ a, σ = [some (.ref p), some (.str l), some (.ref t), some (.int (0 + (j : Int))), some (.int place), some (.int mo), some (.str v), a]) ∧ PotAt G7 p n6 ∧ (∀ a, a ≠ p → a ≠ t → G7 a = G a) ∧ ∃ kvs' ss', G7 t = some (.dic kvs') ∧ Wds kvs' ss' ∧ ss'.length ≤ kvs.length + i ∧ (0 < i → v.take i ∈ ss')) (i := 0) ⟨⟨_, rfl⟩, m6.pot, m6.ext, kvs, ss, hG, hw, by omega, fun z => absurd z (Nat.lt_irrefl _)⟩ ?_ ?_
      · rintro i x σ G7 hx ⟨⟨a', rfl⟩, hp7, he7, kvs', ss', hG', hw', hs', hin⟩ N' hN'
        have hi : i < cnt := by rw [← hl2]; exact (List.getElem?_eq_some_iff.mp hx).1
        rw [numsFrom_get (by omega)] at hx
        cases hx
        dsimp only [ini, nones, fnD, dSeq, dNext, dAsg, dAug, dDrop, dRet, dRetN, dIfS, dCB, dBM, dBM0, dCall, dMeth, dMake, dCons, dNil, dVar, slot, dC, dUn, dOp, dTest, dChain, dAnd, dOr, dNot, dAndV, dOrV, dNotV, dIf, dTup, dLst, dLstM, dPar, dDicNew, dSl, dSlM, dNoPart, dPart, dFld, dFldS, gName', gSub', gTup', gNames, tyD, List.map_cons, List.map_nil, List.replicate, List.cons_append, List.nil_append, List.length_cons, List.length_nil, List.set, e_add_int, e_add_str, e_add_tup, e_add_lst, e_iadd_int, e_iadd_str, e_sub, e_neg, e_mod, e_div, e_pow, e_mul_int, e_mul_str, e_mul_lst, e_mul_tup, e_lt_int, e_le_int, e_gt_int, e_ge_int, e_lt_str, e_eq_int, e_eq_str, e_ne_int, e_ne_str, e_in, e_notin, e_ix_str, e_ix_tup, e_ix_lst, e_ix_scr, e_sl_str, e_sl_tup, e_sl_lst, e_int_bl, e_int_int, e_max2, e_min2, oIs, oIsNot, true_and, and_true, Nat.zero_add, ↓reduceIte, Option.some.injEq, List.cons.injEq, D.str.injEq, D.int.injEq, D.bl.injEq, D.ref.injEq, exists_eq_left', exists_and_left, exists_eq_left]
        refine ⟨by omega, ?_⟩
        rw [cut_to (by omega)]
        have ei : (1 + (i : Int)).toNat = i + 1 := by omega
        rw [ei]
        have hl3 := hw'.len
        refine set_dic hG' (k := .inr (v.take (i + 1))) rfl (by omega) ?_
        have tl : (v.take (i + 1)).length = i + 1 := by rw [List.length_take]; omega
        obtain ⟨ss2, w2, w3, w4⟩ := hw'.put (w := v.take (i + 1)) (lowL_of fun c hc => hv c (List.mem_of_mem_take hc)) (fun e => by rw [e] at tl; simp at tl) (by omega) (by
          by_cases z : i = 0
          · left; rw [tl, z]
          · right
            have e9 : (v.take (i + 1)).dropLast = v.take i := by
              rw [List.dropLast_eq_take, tl, List.take_take]
              congr 1
              omega
            rw [e9]
            have hin' := hin (by omega)
            rw [Nat.zero_add] at hin'
            exact hin')
        refine hN' _ _ _ Le.refl ⟨⟨_, rfl⟩, hp7.eq (Gp.set_ne hpt), fun a h1 h2 => (Gp.set_ne h2).trans (he7 a h1 h2), _, ss2, Gp.set_same, w2, by omega, fun _ => by rw [Nat.zero_add]; exact w4⟩
      · rintro σ G7 ⟨⟨a', rfl⟩, hp7, he7, kvs', ss', hG', hw', hs', _⟩
        rw [hl2] at hs'
        refine hN _ G7 G7 Le.refl ⟨⟨_, _, _, _, _, rfl⟩, 360, Nat.le_refl _, hp7.mono hn6, ⟨kvs', ss', hG', hw', by omega⟩, he7⟩
    by_cases hd : d5 = 0
    · rw [decide_eq_true hd]
      refine len_of (d := .str wo) (n := wo.length) rfl (by rw [wol]; omega) ?_
      refine draw_ok m5.pot (by omega) (by rw [wol]; omega) (p100 (by rw [wol]; omega)) fun d6 G6 g5 g6 h6 b6 => ?_
      have m6 := m5.draw hpt h6 b6
      dsimp only [ini, nones, fnD, dSeq, dNext, dAsg, dAug, dDrop, dRet, dRetN, dIfS, dCB, dBM, dBM0, dCall, dMeth, dMake, dCons, dNil, dVar, slot, dC, dUn, dOp, dTest, dChain, dAnd, dOr, dNot, dAndV, dOrV, dNotV, dIf, dTup, dLst, dLstM, dPar, dDicNew, dSl, dSlM, dNoPart, dPart, dFld, dFldS, gName', gSub', gTup', gNames, tyD, List.map_cons, List.map_nil, List.replicate, List.cons_append, List.nil_append, List.length_cons, List.length_nil, List.set, e_add_int, e_add_str, e_add_tup, e_add_lst, e_iadd_int, e_iadd_str, e_sub, e_neg, e_mod, e_div, e_pow, e_mul_int, e_mul_str, e_mul_lst, e_mul_tup, e_lt_int, e_le_int, e_gt_int, e_ge_int, e_lt_str, e_eq_int, e_eq_str, e_ne_int, e_ne_str, e_in, e_notin, e_ix_str, e_ix_tup, e_ix_lst, e_ix_scr, e_sl_str, e_sl_tup, e_sl_lst, e_int_bl, e_int_int, e_max2, e_min2, oIs, oIsNot, true_and, and_true, Nat.zero_add, ↓reduceIte, Option.some.injEq, List.cons.injEq, D.str.injEq, D.int.injEq, D.bl.injEq, D.ref.injEq, exists_eq_left', exists_and_left, exists_eq_left]
      refine ⟨by rw [wol]; omega, ?_⟩
      rw [cut_to (by omega)]
      refine draw_ok m6.pot (by omega) (by decide) (by decide) fun d7 G7 g7 g8 h7 b7 => ?_
      have m7 := m6.draw hpt h7 b7
      dsimp only [ini, nones, fnD, dSeq, dNext, dAsg, dAug, dDrop, dRet, dRetN, dIfS, dCB, dBM, dBM0, dCall, dMeth, dMake, dCons, dNil, dVar, slot, dC, dUn, dOp, dTest, dChain, dAnd, dOr, dNot, dAndV, dOrV, dNotV, dIf, dTup, dLst, dLstM, dPar, dDicNew, dSl, dSlM, dNoPart, dPart, dFld, dFldS, gName', gSub', gTup', gNames, tyD, List.map_cons, List.map_nil, List.replicate, List.cons_append, List.nil_append, List.length_cons, List.length_nil, List.set, e_add_int, e_add_str, e_add_tup, e_add_lst, e_iadd_int, e_iadd_str, e_sub, e_neg, e_mod, e_div, e_pow, e_mul_int, e_mul_str, e_mul_lst, e_mul_tup, e_lt_int, e_le_int, e_gt_int, e_ge_int, e_lt_str, e_eq_int, e_eq_str, e_ne_int, e_ne_str, e_in, e_notin, e_ix_str, e_ix_tup, e_ix_lst, e_ix_scr, e_sl_str, e_sl_tup, e_sl_lst, e_int_bl, e_int_int, e_max2, e_min2, oIs, oIsNot, true_and, and_true, Nat.zero_add, ↓reduceIte, Option.some.injEq, List.cons.injEq, D.str.injEq, D.int.injEq, D.bl.injEq, D.ref.injEq, exists_eq_left', exists_and_left, exists_eq_left]
      obtain ⟨cc, hcc, hcl⟩ : ∃ cc : Nat, atI [113, 122, 97, 98] d7 = some cc ∧ lowC cc = true := by
        rcases (by omega : d7 = 0 ∨ d7 = 1 ∨ d7 = 2 ∨ d7 = 3) with rfl | rfl | rfl | rfl
        · exact ⟨113, rfl, rfl⟩
        · exact ⟨122, rfl, rfl⟩
        · exact ⟨97, rfl, rfl⟩
        · exact ⟨98, rfl, rfl⟩
      have tl : (wo.take (1 + d6).toNat).length = (1 + d6).toNat := by rw [List.length_take, wol]; omega
      refine ⟨by decide, cc, hcc, by rw [tl]; show (1 + d6).toNat + 1 ≤ _; omega, ?_⟩
      exact tail (wo.take (1 + d6).toNat ++ [cc]) G7 _ _ (fun c hc => by
        rcases List.mem_append.mp hc with z | z
        · exact wolow c (List.mem_of_mem_take z)
        · rw [List.mem_singleton.mp z]; exact hcl) (by simp) (by rw [List.length_append, tl]; show (1 + d6).toNat + 1 ≤ _; omega) (by omega) m7
    · rw [decide_eq_false hd]
      exact tail wo G5 _ _ wolow (by rw [wol]; omega) (by rw [wol]; omega) (by omega) m5
  · rintro σ G' ⟨⟨a, b, c, d, e, rfl⟩, most, hm, mk⟩
    obtain ⟨kvs, ss, hG, hw, hs⟩ := mk.ex
    dsimp only [dRet, ini, nones, fnD, dSeq, dNext, dAsg, dAug, dDrop, dRet, dRetN, dIfS, dCB, dBM, dBM0, dCall, dMeth, dMake, dCons, dNil, dVar, slot, dC, dUn, dOp, dTest, dChain, dAnd, dOr, dNot, dAndV, dOrV, dNotV, dIf, dTup, dLst, dLstM, dPar, dDicNew, dSl, dSlM, dNoPart, dPart, dFld, dFldS, gName', gSub', gTup', gNames, tyD, List.map_cons, List.map_nil, List.replicate, List.cons_append, List.nil_append, List.length_cons, List.length_nil, List.set, e_add_int, e_add_str, e_add_tup, e_add_lst, e_iadd_int, e_iadd_str, e_sub, e_neg, e_mod, e_div, e_pow, e_mul_int, e_mul_str, e_mul_lst, e_mul_tup, e_lt_int, e_le_int, e_gt_int, e_ge_int, e_lt_str, e_eq_int, e_eq_str, e_ne_int, e_ne_str, e_in, e_notin, e_ix_str, e_ix_tup, e_ix_lst, e_ix_scr, e_sl_str, e_sl_tup, e_sl_lst, e_int_bl, e_int_int, e_max2, e_min2, oIs, oIsNot, true_and, and_true, Nat.zero_add, ↓reduceIte, Option.some.injEq, List.cons.injEq, D.str.injEq, D.int.injEq, D.bl.injEq, D.ref.injEq, exists_eq_left', exists_and_left, exists_eq_left]
    refine .inr (.inr ⟨t, kvs, ss, rfl, hG, hw.key, fun ys hp hsort => ?_⟩)
    dsimp only [ini, nones, fnD, dSeq, dNext, dAsg, dAug, dDrop, dRet, dRetN, dIfS, dCB, dBM, dBM0, dCall, dMeth, dMake, dCons, dNil, dVar, slot, dC, dUn, dOp, dTest, dChain, dAnd, dOr, dNot, dAndV, dOrV, dNotV, dIf, dTup, dLst, dLstM, dPar, dDicNew, dSl, dSlM, dNoPart, dPart, dFld, dFldS, gName', gSub', gTup', gNames, tyD, List.map_cons, List.map_nil, List.replicate, List.cons_append, List.nil_append, List.length_cons, List.length_nil, List.set, e_add_int, e_add_str, e_add_tup, e_add_lst, e_iadd_int, e_iadd_str, e_sub, e_neg, e_mod, e_div, e_pow, e_mul_int, e_mul_str, e_mul_lst, e_mul_tup, e_lt_int, e_le_int, e_gt_int, e_ge_int, e_lt_str, e_eq_int, e_eq_str, e_ne_int, e_ne_str, e_in, e_notin, e_ix_str, e_ix_tup, e_ix_lst, e_ix_scr, e_sl_str, e_sl_tup, e_sl_lst, e_int_bl, e_int_int, e_max2, e_min2, oIs, oIsNot, true_and, and_true, Nat.zero_add, ↓reduceIte, Option.some.injEq, List.cons.injEq, D.str.injEq, D.int.injEq, D.bl.injEq, D.ref.injEq, exists_eq_left', exists_and_left, exists_eq_left]
    refine tup_of rfl ?_
    refine q ys G' ⟨fun w hw' => ?_, ?_, fun w hw' => ?_, ?_⟩ (fun w hw' => (hw.let_ w (hp.mem_iff.mp hw')).2.2) (by rw [hp.length_eq]; omega) (mk.pot.mono (by rw [hlen]; omega)) fun a o h1 h2 => ?_
    · obtain ⟨z1, z2, z3⟩ := hw.let_ w (hp.mem_iff.mp hw')
      exact ⟨z1, z2, by omega⟩
    · exact rise_of hsort (hp.nodup_iff.mpr hw.nd)
    · exact (hw.pre w (hp.mem_iff.mp hw')).imp id hp.mem_iff.mpr
    · rw [hp.length_eq]; omega
    · rw [mk.ext a h1 fun e => by rw [e, ht] at h2; cases h2]
      exact h2
end Wk
/-! Q6: Growing: what its methods tell. -/
namespace Wk
open PySem PySem.Spec PyProof.Rows L2 Y Mw
variable {K : PySem.W.Frag} {G : Gp} {ex : DX} {Q : DK}

/-- the fields of a Growing -/
def grF (b : List Nat) (t u : Addr) (p : Nat) : List (Str × D) := [("base", .str b), ("there", .ref t), ("spot", .int p), ("new_words", .ref u)]
structure GrAt (K : PySem.W.Frag) (G : Gp) (s t u : Addr) (b : List Nat) (st : GSt) (k : Nat) : Prop where
  ins : G s = some (.ins (He.ga K "Growing") (grF b t u st.2))
  dic : G t = some (.dic st.1)
  new : ∃ ws, G u = some (.lst ws) ∧ ws.length = k
  st : s ≠ t
  su : s ≠ u
  tu : t ≠ u
theorem fld_of {C : Addr} {f : Str} {te : DE} {σ : DSt} {a : Addr} {fs : List (Str × D)} {d : D} (h : te σ G ex fun x G1 => x = .ref a ∧ G1 = G) : True := True.intro
theorem dfld {C a : Addr} {f : Str} {i : Nat} {σ : DSt} {fs : List (Str × D)} {d : D} (hs : slot σ i = some (.ref a)) (e : G a = some (.ins C fs)) (l : fs.lookup f = some d) (q : Q d G) : dFld C f (dVar i) σ G ex Q := by
  unfold dFld dVar
  rw [hs]
  exact ⟨a, fs, d, rfl, e, l, q⟩
/-- enough room for a reading -/
structure Room1 (b : List Nat) (st : GSt) (B : Nat) : Prop where
  inv : GInv b st B
  room : B < 90000
  many : st.1.length < 900000
theorem Room1.la {b : List Nat} {st : GSt} {B : Nat} (h : Room1 b st B) (i : Nat) : LA b st.1 i ≤ B := (LA_ok b st.1 i).le h.inv.max
def lens (b : List Nat) (kvs : Kv) : List D := (List.range b.length).map fun i => D.int (LA b kvs i : Int)
theorem growing_longest {s t u : Addr} {b : List Nat} {st : GSt} {k B i : Nat} (h : GrAt K G s t u b st k) (r : Room1 b st B) (hi : i < b.length) (q : Q (.int (LA b st.1 i)) G) : sp_longest_on K [.str b, .ref t, .int i] G ex Q := by
  have h1 := r.la i
  have h2 := r.inv.few
  have h3 := r.room
  exact longest_on_ok (by omega) (has_dic h.dic) hi (LA_ok b st.1 i) (by omega) q
theorem all_lengths_ok {s t u : Addr} {b : List Nat} {st : GSt} {k B : Nat} (h : GrAt K G s t u b st k) (r : Room1 b st B) (q : Q (.tup (lens b st.1)) G) : sp_Growing_all_lengths K [.ref s] G ex Q := by
  have h2 := r.inv.few
  refine fn_run rfl ?_
  dsimp only [r_Growing_all_lengths, dComp, dRng1, ini, nones, fnD, dSeq, dNext, dAsg, dAug, dDrop, dRet, dRetN, dIfS, dCB, dBM, dBM0, dCall, dMeth, dMake, dCons, dNil, dVar, slot, dC, dUn, dOp, dTest, dChain, dAnd, dOr, dNot, dAndV, dOrV, dNotV, dIf, dTup, dLst, dLstM, dPar, dDicNew, dSl, dSlM, dNoPart, dPart, dFld, dFldS, gName', gSub', gTup', gNames, tyD, List.map_cons, List.map_nil, List.replicate, List.cons_append, List.nil_append, List.length_cons, List.length_nil, List.set, e_add_int, e_add_str, e_add_tup, e_add_lst, e_iadd_int, e_iadd_str, e_sub, e_neg, e_mod, e_div, e_pow, e_mul_int, e_mul_str, e_mul_lst, e_mul_tup, e_lt_int, e_le_int, e_gt_int, e_ge_int, e_lt_str, e_eq_int, e_eq_str, e_ne_int, e_ne_str, e_in, e_notin, e_ix_str, e_ix_tup, e_ix_lst, e_ix_scr, e_sl_str, e_sl_tup, e_sl_lst, e_int_bl, e_int_int, e_max2, e_min2, oIs, oIsNot, true_and, and_true, Nat.zero_add, ↓reduceIte, Option.some.injEq, List.cons.injEq, D.str.injEq, D.int.injEq, D.bl.injEq, D.ref.injEq, exists_eq_left', exists_and_left, exists_eq_left]
  refine ⟨s, _, _, rfl, h.ins, rfl, ?_⟩
  refine len_of (d := .str b) (n := b.length) rfl (by omega) ?_
  dsimp only [ini, nones, fnD, dSeq, dNext, dAsg, dAug, dDrop, dRet, dRetN, dIfS, dCB, dBM, dBM0, dCall, dMeth, dMake, dCons, dNil, dVar, slot, dC, dUn, dOp, dTest, dChain, dAnd, dOr, dNot, dAndV, dOrV, dNotV, dIf, dTup, dLst, dLstM, dPar, dDicNew, dSl, dSlM, dNoPart, dPart, dFld, dFldS, gName', gSub', gTup', gNames, tyD, List.map_cons, List.map_nil, List.replicate, List.cons_append, List.nil_append, List.length_cons, List.length_nil, List.set, e_add_int, e_add_str, e_add_tup, e_add_lst, e_iadd_int, e_iadd_str, e_sub, e_neg, e_mod, e_div, e_pow, e_mul_int, e_mul_str, e_mul_lst, e_mul_tup, e_lt_int, e_le_int, e_gt_int, e_ge_int, e_lt_str, e_eq_int, e_eq_str, e_ne_int, e_ne_str, e_in, e_notin, e_ix_str, e_ix_tup, e_ix_lst, e_ix_scr, e_sl_str, e_sl_tup, e_sl_lst, e_int_bl, e_int_int, e_max2, e_min2, oIs, oIsNot, true_and, and_true, Nat.zero_add, ↓reduceIte, Option.some.injEq, List.cons.injEq, D.str.injEq, D.int.injEq, D.bl.injEq, D.ref.injEq, exists_eq_left', exists_and_left, exists_eq_left]
  refine ⟨by omega, ?_⟩
  refine turns_map (f := fun x => match x with
    | .int i => .int (LA b st.1 i.toNat)
    | _ => .non) (fun x hx T Fs hT hF => ?_) (by rw [numsFrom_len]; omega) ?_
  · obtain ⟨i, hi, rfl⟩ := numsFrom_mem hx
    have h' := hT rfl
    dsimp only at h'
    rw [Int.zero_add, Int.toNat_natCast] at h'
    dsimp only [TK.d, dwipe, dYes, ini, nones, fnD, dSeq, dNext, dAsg, dAug, dDrop, dRet, dRetN, dIfS, dCB, dBM, dBM0, dCall, dMeth, dMake, dCons, dNil, dVar, slot, dC, dUn, dOp, dTest, dChain, dAnd, dOr, dNot, dAndV, dOrV, dNotV, dIf, dTup, dLst, dLstM, dPar, dDicNew, dSl, dSlM, dNoPart, dPart, dFld, dFldS, gName', gSub', gTup', gNames, tyD, List.map_cons, List.map_nil, List.replicate, List.cons_append, List.nil_append, List.length_cons, List.length_nil, List.set, e_add_int, e_add_str, e_add_tup, e_add_lst, e_iadd_int, e_iadd_str, e_sub, e_neg, e_mod, e_div, e_pow, e_mul_int, e_mul_str, e_mul_lst, e_mul_tup, e_lt_int, e_le_int, e_gt_int, e_ge_int, e_lt_str, e_eq_int, e_eq_str, e_ne_int, e_ne_str, e_in, e_notin, e_ix_str, e_ix_tup, e_ix_lst, e_ix_scr, e_sl_str, e_sl_tup, e_sl_lst, e_int_bl, e_int_int, e_max2, e_min2, oIs, oIsNot, true_and, and_true, Nat.zero_add, ↓reduceIte, Option.some.injEq, List.cons.injEq, D.str.injEq, D.int.injEq, D.bl.injEq, D.ref.injEq, exists_eq_left', exists_and_left, exists_eq_left]
    refine ⟨s, _, _, rfl, h.ins, rfl, s, _, _, rfl, h.ins, rfl, ?_⟩
    rw [Int.zero_add]
    exact growing_longest h r (by omega) h'
  · refine tup_of rfl ?_
    have e : (numsFrom 0 (b.length : Int).toNat).map (fun x => match x with
      | .int i => D.int (LA b st.1 i.toNat)
      | _ => .non) = lens b st.1 := by
      unfold numsFrom lens
      rw [List.map_map, Int.toNat_natCast]
      refine List.map_congr_left fun i _ => ?_
      show D.int (LA b st.1 (0 + (i : Int)).toNat) = D.int (LA b st.1 i)
      rw [Int.zero_add, Int.toNat_natCast]
    rw [e]
    exact q
theorem foldl_min_le : ∀ (l : List Int) (x c : Int), (c ≤ l.foldl min x) ↔ (c ≤ x ∧ ∀ y ∈ l, c ≤ y)
  | [], x, c => by simp
  | y :: l, x, c => by
    rw [List.foldl_cons, foldl_min_le l (min x y) c]
    simp only [List.mem_cons, forall_eq_or_imp]
    constructor
    · rintro ⟨h1, h2⟩
      exact ⟨by omega, by omega, h2⟩
    · rintro ⟨h1, h2, h3⟩
      exact ⟨by omega, h3⟩
/-- min(lengths) >= n - 1 -/
theorem min_lens {b : List Nat} {kvs : Kv} (hb : 0 < b.length) : ∃ (x : Int) (l : List Int), lens b kvs = (x :: l).map D.int ∧ decide ((b.length : Int) - 1 ≤ l.foldl min x) = grownG b kvs := by
  obtain ⟨n, hn⟩ : ∃ n, b.length = n + 1 := ⟨b.length - 1, by omega⟩
  refine ⟨(LA b kvs 0 : Int), (List.range n).map fun i => (LA b kvs (i + 1) : Int), ?_, ?_⟩
  · unfold lens
    rw [hn, List.range_succ_eq_map, List.map_cons, List.map_map, List.map_cons, List.map_map]
    rfl
  · have e : grownG b kvs = decide (∀ i, i < b.length → b.length - 1 ≤ LA b kvs i) := by
      unfold grownG
      by_cases h : ∀ i, i < b.length → b.length - 1 ≤ LA b kvs i
      · rw [decide_eq_true h, List.all_eq_true]
        exact fun i hi => decide_eq_true (h i (List.mem_range.mp hi))
      · rw [decide_eq_false h, List.all_eq_false]
        by_cases z : ∃ i, i < b.length ∧ ¬ b.length - 1 ≤ LA b kvs i
        · obtain ⟨i, h1, h2⟩ := z
          exact ⟨i, List.mem_range.mpr h1, by simpa using h2⟩
        · exact absurd (fun i hi => by
            by_cases y : b.length - 1 ≤ LA b kvs i
            · exact y
            · exact absurd ⟨i, hi, y⟩ z) h
    rw [e]
    refine decide_eq_decide.mpr ?_
    rw [foldl_min_le]
    constructor
    · rintro ⟨h1, h2⟩ i hi
      cases i with
      | zero => omega
      | succ i =>
        have := h2 (LA b kvs (i + 1) : Int) (List.mem_map.mpr ⟨i, List.mem_range.mpr (by omega), rfl⟩)
        omega
    · intro h
      refine ⟨by have := h 0 (by omega); omega, fun y hy => ?_⟩
      obtain ⟨i, hi, rfl⟩ := List.mem_map.mp hy
      have := h (i + 1) (by have := List.mem_range.mp hi; omega)
      omega
theorem has_grown_ok {s t u : Addr} {b : List Nat} {st : GSt} {k B : Nat} (h : GrAt K G s t u b st k) (r : Room1 b st B) (q : Q (.bl (grownG b st.1)) G) : sp_Growing_has_grown K [.ref s] G ex Q := by
  have h2 := r.inv.few
  refine fn_run rfl ?_
  dsimp only [r_Growing_has_grown, ini, nones, fnD, dSeq, dNext, dAsg, dAug, dDrop, dRet, dRetN, dIfS, dCB, dBM, dBM0, dCall, dMeth, dMake, dCons, dNil, dVar, slot, dC, dUn, dOp, dTest, dChain, dAnd, dOr, dNot, dAndV, dOrV, dNotV, dIf, dTup, dLst, dLstM, dPar, dDicNew, dSl, dSlM, dNoPart, dPart, dFld, dFldS, gName', gSub', gTup', gNames, tyD, List.map_cons, List.map_nil, List.replicate, List.cons_append, List.nil_append, List.length_cons, List.length_nil, List.set, e_add_int, e_add_str, e_add_tup, e_add_lst, e_iadd_int, e_iadd_str, e_sub, e_neg, e_mod, e_div, e_pow, e_mul_int, e_mul_str, e_mul_lst, e_mul_tup, e_lt_int, e_le_int, e_gt_int, e_ge_int, e_lt_str, e_eq_int, e_eq_str, e_ne_int, e_ne_str, e_in, e_notin, e_ix_str, e_ix_tup, e_ix_lst, e_ix_scr, e_sl_str, e_sl_tup, e_sl_lst, e_int_bl, e_int_int, e_max2, e_min2, oIs, oIsNot, true_and, and_true, Nat.zero_add, ↓reduceIte, Option.some.injEq, List.cons.injEq, D.str.injEq, D.int.injEq, D.bl.injEq, D.ref.injEq, exists_eq_left', exists_and_left, exists_eq_left]
  refine ⟨s, _, rfl, h.ins, rfl, ?_⟩
  refine all_lengths_ok h r ?_
  obtain ⟨x, l, e1, e2⟩ := min_lens (kvs := st.1) r.inv.pos
  refine min1_of (n := x) (ns := l) (by show some _ = some _; rw [e1]) ?_
  refine ⟨s, _, _, rfl, h.ins, rfl, ?_⟩
  refine len_of (d := .str b) (n := b.length) rfl (by omega) ?_
  dsimp only [ini, nones, fnD, dSeq, dNext, dAsg, dAug, dDrop, dRet, dRetN, dIfS, dCB, dBM, dBM0, dCall, dMeth, dMake, dCons, dNil, dVar, slot, dC, dUn, dOp, dTest, dChain, dAnd, dOr, dNot, dAndV, dOrV, dNotV, dIf, dTup, dLst, dLstM, dPar, dDicNew, dSl, dSlM, dNoPart, dPart, dFld, dFldS, gName', gSub', gTup', gNames, tyD, List.map_cons, List.map_nil, List.replicate, List.cons_append, List.nil_append, List.length_cons, List.length_nil, List.set, e_add_int, e_add_str, e_add_tup, e_add_lst, e_iadd_int, e_iadd_str, e_sub, e_neg, e_mod, e_div, e_pow, e_mul_int, e_mul_str, e_mul_lst, e_mul_tup, e_lt_int, e_le_int, e_gt_int, e_ge_int, e_lt_str, e_eq_int, e_eq_str, e_ne_int, e_ne_str, e_in, e_notin, e_ix_str, e_ix_tup, e_ix_lst, e_ix_scr, e_sl_str, e_sl_tup, e_sl_lst, e_int_bl, e_int_int, e_max2, e_min2, oIs, oIsNot, true_and, and_true, Nat.zero_add, ↓reduceIte, Option.some.injEq, List.cons.injEq, D.str.injEq, D.int.injEq, D.bl.injEq, D.ref.injEq, exists_eq_left', exists_and_left, exists_eq_left]
  rw [e2]
  exact q
/-- elsewhere all is as it was -/
def But3 (s t u : Addr) (G G' : Gp) : Prop := ∀ a, a ≠ s → a ≠ t → a ≠ u → G' a = G a
theorem But3.trans {s t u : Addr} {G1 G2 : Gp} (h : But3 s t u G G1) (h' : But3 s t u G1 G2) : But3 s t u G G2 := fun a x y z => (h' a x y z).trans (h a x y z)
theorem read_word_ok {s t u : Addr} {b : List Nat} {st : GSt} {k B : Nat} (h : GrAt K G s t u b st k) (r : Room1 b st B) (hk : k < 900000) (q : ∀ G', GrAt K G' s t u b (stepG b st) (k + 1) → But3 s t u G G' → Q .non G') : sp_Growing_read_word K [.ref s] G ex Q := by
  have h2 := r.inv.few
  have h3 := r.room
  have h4 := r.la st.2
  have h5 := r.inv.at_
  have h6 := r.many
  obtain ⟨ws, hu, hws⟩ := h.new
  refine fn_run rfl ?_
  dsimp only [r_Growing_read_word, ini, nones, fnD, dSeq, dNext, dAsg, dAug, dDrop, dRet, dRetN, dIfS, dCB, dBM, dBM0, dCall, dMeth, dMake, dCons, dNil, dVar, slot, dC, dUn, dOp, dTest, dChain, dAnd, dOr, dNot, dAndV, dOrV, dNotV, dIf, dTup, dLst, dLstM, dPar, dDicNew, dSl, dSlM, dNoPart, dPart, dFld, dFldS, gName', gSub', gTup', gNames, tyD, List.map_cons, List.map_nil, List.replicate, List.cons_append, List.nil_append, List.length_cons, List.length_nil, List.set, e_add_int, e_add_str, e_add_tup, e_add_lst, e_iadd_int, e_iadd_str, e_sub, e_neg, e_mod, e_div, e_pow, e_mul_int, e_mul_str, e_mul_lst, e_mul_tup, e_lt_int, e_le_int, e_gt_int, e_ge_int, e_lt_str, e_eq_int, e_eq_str, e_ne_int, e_ne_str, e_in, e_notin, e_ix_str, e_ix_tup, e_ix_lst, e_ix_scr, e_sl_str, e_sl_tup, e_sl_lst, e_int_bl, e_int_int, e_max2, e_min2, oIs, oIsNot, true_and, and_true, Nat.zero_add, ↓reduceIte, Option.some.injEq, List.cons.injEq, D.str.injEq, D.int.injEq, D.bl.injEq, D.ref.injEq, exists_eq_left', exists_and_left, exists_eq_left]
  refine ⟨s, _, _, rfl, h.ins, rfl, s, _, _, rfl, h.ins, rfl, s, _, _, rfl, h.ins, rfl, ?_⟩
  refine growing_longest h r h5 ?_
  dsimp only [ini, nones, fnD, dSeq, dNext, dAsg, dAug, dDrop, dRet, dRetN, dIfS, dCB, dBM, dBM0, dCall, dMeth, dMake, dCons, dNil, dVar, slot, dC, dUn, dOp, dTest, dChain, dAnd, dOr, dNot, dAndV, dOrV, dNotV, dIf, dTup, dLst, dLstM, dPar, dDicNew, dSl, dSlM, dNoPart, dPart, dFld, dFldS, gName', gSub', gTup', gNames, tyD, List.map_cons, List.map_nil, List.replicate, List.cons_append, List.nil_append, List.length_cons, List.length_nil, List.set, e_add_int, e_add_str, e_add_tup, e_add_lst, e_iadd_int, e_iadd_str, e_sub, e_neg, e_mod, e_div, e_pow, e_mul_int, e_mul_str, e_mul_lst, e_mul_tup, e_lt_int, e_le_int, e_gt_int, e_ge_int, e_lt_str, e_eq_int, e_eq_str, e_ne_int, e_ne_str, e_in, e_notin, e_ix_str, e_ix_tup, e_ix_lst, e_ix_scr, e_sl_str, e_sl_tup, e_sl_lst, e_int_bl, e_int_int, e_max2, e_min2, oIs, oIsNot, true_and, and_true, Nat.zero_add, ↓reduceIte, Option.some.injEq, List.cons.injEq, D.str.injEq, D.int.injEq, D.bl.injEq, D.ref.injEq, exists_eq_left', exists_and_left, exists_eq_left]
  refine ⟨s, _, _, rfl, h.ins, rfl, s, _, _, rfl, h.ins, rfl, s, _, _, rfl, h.ins, rfl, ?_⟩
  have e1 : ((LA b st.1 st.2 : Int) + 1) = ((LA b st.1 st.2 + 1 : Nat) : Int) := by omega
  rw [e1]
  refine spelled_ok (by omega) h5 (by omega) ?_
  refine set_dic h.dic (k := .inr (wd b st.2 (LA b st.1 st.2 + 1))) rfl (by omega) ?_
  have i1 : (G.set t (.dic (dput st.1 (.inr (wd b st.2 (LA b st.1 st.2 + 1))) (.bl true)))) s = some (.ins (He.ga K "Growing") (grF b t u st.2)) := by rw [Gp.set_ne h.st]; exact h.ins
  have u1 : (G.set t (.dic (dput st.1 (.inr (wd b st.2 (LA b st.1 st.2 + 1))) (.bl true)))) u = some (.lst ws) := by rw [Gp.set_ne h.tu.symm]; exact hu
  refine ⟨s, _, _, rfl, i1, rfl, .inl ⟨rfl, ws, u1⟩, s, _, _, rfl, i1, rfl, by decide, ?_⟩
  refine append_of u1 (by omega) ?_
  have i2 : ((G.set t (.dic (dput st.1 (.inr (wd b st.2 (LA b st.1 st.2 + 1))) (.bl true)))).set u (.lst (ws ++ [.tup [.int st.2, .int ((LA b st.1 st.2 + 1 : Nat) : Int)]]))) s = some (.ins (He.ga K "Growing") (grF b t u st.2)) := by rw [Gp.set_ne h.su]; exact i1
  refine ⟨s, _, _, rfl, i2, rfl, ?_⟩
  dsimp only [ini, nones, fnD, dSeq, dNext, dAsg, dAug, dDrop, dRet, dRetN, dIfS, dCB, dBM, dBM0, dCall, dMeth, dMake, dCons, dNil, dVar, slot, dC, dUn, dOp, dTest, dChain, dAnd, dOr, dNot, dAndV, dOrV, dNotV, dIf, dTup, dLst, dLstM, dPar, dDicNew, dSl, dSlM, dNoPart, dPart, dFld, dFldS, gName', gSub', gTup', gNames, tyD, List.map_cons, List.map_nil, List.replicate, List.cons_append, List.nil_append, List.length_cons, List.length_nil, List.set, e_add_int, e_add_str, e_add_tup, e_add_lst, e_iadd_int, e_iadd_str, e_sub, e_neg, e_mod, e_div, e_pow, e_mul_int, e_mul_str, e_mul_lst, e_mul_tup, e_lt_int, e_le_int, e_gt_int, e_ge_int, e_lt_str, e_eq_int, e_eq_str, e_ne_int, e_ne_str, e_in, e_notin, e_ix_str, e_ix_tup, e_ix_lst, e_ix_scr, e_sl_str, e_sl_tup, e_sl_lst, e_int_bl, e_int_int, e_max2, e_min2, oIs, oIsNot, true_and, and_true, Nat.zero_add, ↓reduceIte, Option.some.injEq, List.cons.injEq, D.str.injEq, D.int.injEq, D.bl.injEq, D.ref.injEq, exists_eq_left', exists_and_left, exists_eq_left]
  refine ⟨s, _, _, rfl, i2, rfl, ?_⟩
  refine len_of (d := .str b) (n := b.length) rfl (by omega) ?_
  dsimp only [ini, nones, fnD, dSeq, dNext, dAsg, dAug, dDrop, dRet, dRetN, dIfS, dCB, dBM, dBM0, dCall, dMeth, dMake, dCons, dNil, dVar, slot, dC, dUn, dOp, dTest, dChain, dAnd, dOr, dNot, dAndV, dOrV, dNotV, dIf, dTup, dLst, dLstM, dPar, dDicNew, dSl, dSlM, dNoPart, dPart, dFld, dFldS, gName', gSub', gTup', gNames, tyD, List.map_cons, List.map_nil, List.replicate, List.cons_append, List.nil_append, List.length_cons, List.length_nil, List.set, e_add_int, e_add_str, e_add_tup, e_add_lst, e_iadd_int, e_iadd_str, e_sub, e_neg, e_mod, e_div, e_pow, e_mul_int, e_mul_str, e_mul_lst, e_mul_tup, e_lt_int, e_le_int, e_gt_int, e_ge_int, e_lt_str, e_eq_int, e_eq_str, e_ne_int, e_ne_str, e_in, e_notin, e_ix_str, e_ix_tup, e_ix_lst, e_ix_scr, e_sl_str, e_sl_tup, e_sl_lst, e_int_bl, e_int_int, e_max2, e_min2, oIs, oIsNot, true_and, and_true, Nat.zero_add, ↓reduceIte, Option.some.injEq, List.cons.injEq, D.str.injEq, D.int.injEq, D.bl.injEq, D.ref.injEq, exists_eq_left', exists_and_left, exists_eq_left]
  refine ⟨by omega, s, _, rfl, i2, (by show 4 < 1000; decide), ?_⟩
  have e2 : (((st.2 : Int) + ((LA b st.1 st.2 + 1 : Nat) : Int)) % (b.length : Int)) = (((st.2 + LA b st.1 st.2 + 1) % b.length : Nat) : Int) := by
    rw [← Int.natCast_add, ← Int.natCast_emod]
    rfl
  rw [e2]
  refine q _ ⟨?_, ?_, ⟨ws ++ [.tup [.int st.2, .int ((LA b st.1 st.2 + 1 : Nat) : Int)]], ?_, ?_⟩, h.st, h.su, h.tu⟩ fun a a1 a2 a3 => ?_
  · rw [Gp.set_same]; rfl
  · rw [Gp.set_ne h.st.symm, Gp.set_ne h.tu, Gp.set_same]; rfl
  · rw [Gp.set_ne h.su.symm, Gp.set_same]
  · rw [List.length_append, List.length_singleton, hws]
  · rw [Gp.set_ne a1, Gp.set_ne a3, Gp.set_ne a2]
theorem till_grown_ok {s t u : Addr} {b : List Nat} {st : GSt} {k B n : Nat} (h : GrAt K G s t u b st k) (hi : GInv b st B) (hB : B + n < 80000) (hm : st.1.length + n < 800000) (hk : k + n < 800000) (fin : FinG b st n)
    (q : ∀ G', GrAt K G' s t u b (iterG b n st) (k + n) → But3 s t u G G' → Q .non G') : sp_Growing_read_on_till_grown K [.ref s] G ex Q := by
  refine fn_run rfl ?_
  dsimp only [r_Growing_read_on_till_grown, ini, nones, fnD, dSeq, dNext, dAsg, dAug, dDrop, dRet, dRetN, dIfS, dCB, dBM, dBM0, dCall, dMeth, dMake, dCons, dNil, dVar, slot, dC, dUn, dOp, dTest, dChain, dAnd, dOr, dNot, dAndV, dOrV, dNotV, dIf, dTup, dLst, dLstM, dPar, dDicNew, dSl, dSlM, dNoPart, dPart, dFld, dFldS, gName', gSub', gTup', gNames, tyD, List.map_cons, List.map_nil, List.replicate, List.cons_append, List.nil_append, List.length_cons, List.length_nil, List.set, e_add_int, e_add_str, e_add_tup, e_add_lst, e_iadd_int, e_iadd_str, e_sub, e_neg, e_mod, e_div, e_pow, e_mul_int, e_mul_str, e_mul_lst, e_mul_tup, e_lt_int, e_le_int, e_gt_int, e_ge_int, e_lt_str, e_eq_int, e_eq_str, e_ne_int, e_ne_str, e_in, e_notin, e_ix_str, e_ix_tup, e_ix_lst, e_ix_scr, e_sl_str, e_sl_tup, e_sl_lst, e_int_bl, e_int_int, e_max2, e_min2, oIs, oIsNot, true_and, and_true, Nat.zero_add, ↓reduceIte, Option.some.injEq, List.cons.injEq, D.str.injEq, D.int.injEq, D.bl.injEq, D.ref.injEq, exists_eq_left', exists_and_left, exists_eq_left]
  refine ⟨fun m σ G' => ∃ j, j + m = n ∧ σ = [some (.ref s)] ∧ GrAt K G' s t u b (iterG b j st) (k + j) ∧ But3 s t u G G', ⟨n, 0, by omega, rfl, h, fun _ _ _ _ => rfl⟩, ?_⟩
  rintro m σ G' ⟨j, hj, rfl, hg, hb⟩
  have r : Room1 b (iterG b j st) (B + j) := ⟨hi.iter j, by omega, by have := iterG_len (b := b) j st; omega⟩
  dsimp only [ini, nones, fnD, dSeq, dNext, dAsg, dAug, dDrop, dRet, dRetN, dIfS, dCB, dBM, dBM0, dCall, dMeth, dMake, dCons, dNil, dVar, slot, dC, dUn, dOp, dTest, dChain, dAnd, dOr, dNot, dAndV, dOrV, dNotV, dIf, dTup, dLst, dLstM, dPar, dDicNew, dSl, dSlM, dNoPart, dPart, dFld, dFldS, gName', gSub', gTup', gNames, tyD, List.map_cons, List.map_nil, List.replicate, List.cons_append, List.nil_append, List.length_cons, List.length_nil, List.set, e_add_int, e_add_str, e_add_tup, e_add_lst, e_iadd_int, e_iadd_str, e_sub, e_neg, e_mod, e_div, e_pow, e_mul_int, e_mul_str, e_mul_lst, e_mul_tup, e_lt_int, e_le_int, e_gt_int, e_ge_int, e_lt_str, e_eq_int, e_eq_str, e_ne_int, e_ne_str, e_in, e_notin, e_ix_str, e_ix_tup, e_ix_lst, e_ix_scr, e_sl_str, e_sl_tup, e_sl_lst, e_int_bl, e_int_int, e_max2, e_min2, oIs, oIsNot, true_and, and_true, Nat.zero_add, ↓reduceIte, Option.some.injEq, List.cons.injEq, D.str.injEq, D.int.injEq, D.bl.injEq, D.ref.injEq, exists_eq_left', exists_and_left, exists_eq_left]
  refine ⟨s, _, rfl, hg.ins, rfl, ?_⟩
  refine has_grown_ok hg r ?_
  by_cases e : j = n
  · subst e
    rw [fin.yes]
    exact q _ hg hb
  · rw [fin.no j (by omega)]
    refine ⟨s, _, rfl, hg.ins, rfl, ?_⟩
    refine read_word_ok hg r (by omega) fun G2 h2 b2 => ?_
    refine ⟨G2, Le.refl, m - 1, by omega, j + 1, by omega, rfl, ?_, hb.trans b2⟩
    rw [iterG_succ]
    exact h2
end Wk
/-! Q7: grown, grown_by, coder_then. -/
namespace Wk
open PySem PySem.Spec PyProof.Rows L2 Y Mw
variable {K : PySem.W.Frag} {G : Gp} {ex : DX} {Q : DK}

theorem inK_dicOf (ws : List (List Nat)) (w : List Nat) : inK (dicOf ws) w = decide (w ∈ ws) := look_of ws w
theorem dicOf_len (ws : List (List Nat)) : (dicOf ws).length ≤ ws.length := by
  have := dmerge_len (ws.map fun w => (Sum.inr w, D.bl true)) []
  rwa [List.length_nil, Nat.zero_add, List.length_map] at this
/-- where reading begins -/
theorem ginv_start {l : List Nat} {d : Nat} {ws : List (List Nat)} {B : Nat} (hl : LoopOk l) (hd : d ≤ l.length) (hr : IsRoot l d) (hk : KnownOk ws) (hB : ∀ w ∈ ws, w.length ≤ B) : GInv (l.take d) (dicOf ws, 0) B := by
  have hlen : (l.take d).length = d := by rw [List.length_take]; omega
  have h0 := hr.1.1
  have h12 := hl.few
  refine ⟨prim_of_root hd hr, by omega, by omega, fun i m h => ?_, by show 0 < _; omega, fun w hw => ?_⟩
  · rw [inK_dicOf] at h ⊢
    have h1 : wd (l.take d) i (m + 2) ∈ ws := of_decide_eq_true h
    rcases hk.pre _ h1 with e | e
    · rw [wd_len] at e; omega
    · rw [wd_drop_last] at e
      exact decide_eq_true e
  · rw [inK_dicOf] at hw
    exact hB w (of_decide_eq_true hw)
theorem init_ok {s : Addr} {l : List Nat} {d : Nat} {ws : List (List Nat)} (hs : G s = some (.ins (He.ga K "Growing") [])) (hl : LoopOk l) (hd : d ≤ l.length) (hr : IsRoot l d) (hk : KnownOk ws)
    (q : ∀ G' t u, GrAt K G' s t u (l.take d) (dicOf ws, 0) 0 → (∀ a o, a ≠ s → G a = some o → a ≠ t ∧ a ≠ u ∧ G' a = some o) → Q .non G') : sp_Growing___init__ K [.ref s, .str l, .tup (ws.map D.str)] G ex Q := by
  have h12 := hl.few
  have hf := hk.few
  refine fn_run rfl ?_
  dsimp only [r_Growing___init__, ini, nones, fnD, dSeq, dNext, dAsg, dAug, dDrop, dRet, dRetN, dIfS, dCB, dBM, dBM0, dCall, dMeth, dMake, dCons, dNil, dVar, slot, dC, dUn, dOp, dTest, dChain, dAnd, dOr, dNot, dAndV, dOrV, dNotV, dIf, dTup, dLst, dLstM, dPar, dDicNew, dSl, dSlM, dNoPart, dPart, dFld, dFldS, gName', gSub', gTup', gNames, tyD, List.map_cons, List.map_nil, List.replicate, List.cons_append, List.nil_append, List.length_cons, List.length_nil, List.set, e_add_int, e_add_str, e_add_tup, e_add_lst, e_iadd_int, e_iadd_str, e_sub, e_neg, e_mod, e_div, e_pow, e_mul_int, e_mul_str, e_mul_lst, e_mul_tup, e_lt_int, e_le_int, e_gt_int, e_ge_int, e_lt_str, e_eq_int, e_eq_str, e_ne_int, e_ne_str, e_in, e_notin, e_ix_str, e_ix_tup, e_ix_lst, e_ix_scr, e_sl_str, e_sl_tup, e_sl_lst, e_int_bl, e_int_int, e_max2, e_min2, oIs, oIsNot, true_and, and_true, Nat.zero_add, ↓reduceIte, Option.some.injEq, List.cons.injEq, D.str.injEq, D.int.injEq, D.bl.injEq, D.ref.injEq, exists_eq_left', exists_and_left, exists_eq_left]
  refine root_of_ok (by omega) hd hr ?_
  refine ⟨s, [], rfl, hs, by decide, ?_⟩
  dsimp only [dCompD, dRow, rowOf, ini, nones, fnD, dSeq, dNext, dAsg, dAug, dDrop, dRet, dRetN, dIfS, dCB, dBM, dBM0, dCall, dMeth, dMake, dCons, dNil, dVar, slot, dC, dUn, dOp, dTest, dChain, dAnd, dOr, dNot, dAndV, dOrV, dNotV, dIf, dTup, dLst, dLstM, dPar, dDicNew, dSl, dSlM, dNoPart, dPart, dFld, dFldS, gName', gSub', gTup', gNames, tyD, List.map_cons, List.map_nil, List.replicate, List.cons_append, List.nil_append, List.length_cons, List.length_nil, List.set, e_add_int, e_add_str, e_add_tup, e_add_lst, e_iadd_int, e_iadd_str, e_sub, e_neg, e_mod, e_div, e_pow, e_mul_int, e_mul_str, e_mul_lst, e_mul_tup, e_lt_int, e_le_int, e_gt_int, e_ge_int, e_lt_str, e_eq_int, e_eq_str, e_ne_int, e_ne_str, e_in, e_notin, e_ix_str, e_ix_tup, e_ix_lst, e_ix_scr, e_sl_str, e_sl_tup, e_sl_lst, e_int_bl, e_int_int, e_max2, e_min2, oIs, oIsNot, true_and, and_true, Nat.zero_add, ↓reduceIte, Option.some.injEq, List.cons.injEq, D.str.injEq, D.int.injEq, D.bl.injEq, D.ref.injEq, exists_eq_left', exists_and_left, exists_eq_left]
  refine dc_words hf (fun d => rfl) fun t ht => ?_
  have hst : s ≠ t := fun e => by rw [← e, Gp.set_same] at ht; cases ht
  have i1 : ((G.set s (.ins (He.ga K "Growing") (putD "base" (.str (l.take d)) []))).set t (.dic (dicOf ws))) s = some (.ins (He.ga K "Growing") (putD "base" (.str (l.take d)) [])) := by rw [Gp.set_ne hst, Gp.set_same]
  refine ⟨s, _, rfl, i1, by show 1 < 1000; decide, ?_⟩
  refine ⟨s, _, rfl, Gp.set_same, by show 2 < 1000; decide, ?_⟩
  refine ⟨by decide, fun u hu => ?_⟩
  have hsu : s ≠ u := fun e => by rw [← e, Gp.set_same] at hu; cases hu
  have htu : t ≠ u := fun e => by rw [← e, Gp.set_ne hst.symm, Gp.set_ne hst.symm, Gp.set_same] at hu; cases hu
  refine ⟨s, _, rfl, (by rw [Gp.set_ne hsu, Gp.set_same]), by show 3 < 1000; decide, ?_⟩
  have old : ∀ a o, a ≠ s → G a = some o → a ≠ t := fun a o h1 h2 e => by rw [← e, Gp.set_ne h1] at ht; rw [ht] at h2; cases h2
  refine q _ t u ⟨?_, ?_, ⟨[], ?_, rfl⟩, hst, hsu, htu⟩ fun a o h1 h2 => ?_
  · rw [Gp.set_same]; rfl
  · rw [Gp.set_ne hst.symm, Gp.set_ne htu, Gp.set_ne hst.symm, Gp.set_ne hst.symm, Gp.set_same]
  · rw [Gp.set_ne hsu.symm, Gp.set_same]
  · have h3 := old a o h1 h2
    have h4 : a ≠ u := fun e => by rw [← e, Gp.set_ne h1, Gp.set_ne h1, Gp.set_ne h3, Gp.set_ne h1] at hu; rw [hu] at h2; cases h2
    rw [Gp.set_ne h1, Gp.set_ne h4, Gp.set_ne h1, Gp.set_ne h1, Gp.set_ne h3, Gp.set_ne h1]
    exact ⟨h3, h4, h2⟩
/-- the loop and what is known of it, and how it ends -/
structure Case (l : List Nat) (d : Nat) (ws : List (List Nat)) (n : Nat) : Prop where
  loop : LoopOk l
  le : d ≤ l.length
  root : IsRoot l d
  known : KnownOk ws
  short : ∀ w ∈ ws, w.length ≤ 400
  few : ws.length ≤ 400
  fin : FinG (l.take d) (dicOf ws, 0) n
  small : n ≤ 30000
theorem case_ex {l : List Nat} {ws : List (List Nat)} (hl : LoopOk l) (hk : KnownOk ws) (hs : ∀ w ∈ ws, w.length ≤ 400) (hf : ws.length ≤ 400) : ∃ d n, Case l d ws n := by
  obtain ⟨d, hr, hd⟩ := root_ex hl.pos
  have g := ginv_start hl hd hr hk hs
  obtain ⟨n, h1, h2⟩ := FinG.ex _ g (msG_le g)
  exact ⟨d, n, hl, hd, hr, hk, hs, hf, h1, h2⟩
/-- where it ends -/
abbrev endG (l : List Nat) (d : Nat) (ws : List (List Nat)) (n : Nat) : GSt := iterG (l.take d) n (dicOf ws, 0)
theorem Case.room {l : List Nat} {d : Nat} {ws : List (List Nat)} {n : Nat} (c : Case l d ws n) : Room1 (l.take d) (endG l d ws n) (400 + n) := by
  have h1 := dicOf_len ws
  have h2 := iterG_len (b := l.take d) n (dicOf ws, 0)
  have h3 := c.few
  have h4 := c.small
  refine ⟨(ginv_start c.loop c.le c.root c.known c.short).iter n, by omega, ?_⟩
  have h5 : (endG l d ws n).1.length ≤ (dicOf ws).length + n := h2
  omega
theorem grown_ok {l : List Nat} {d : Nat} {ws : List (List Nat)} {n : Nat} (c : Case l d ws n) (q : ∀ G' s t u, GrAt K G' s t u (l.take d) (endG l d ws n) n → Le G G' → Q (.ref s) G') : sp_grown K [.str l, .tup (ws.map D.str)] G ex Q := by
  have h1 := dicOf_len ws
  have h3 := c.few
  have h4 := c.small
  refine fn_run rfl ?_
  dsimp only [r_grown, ini, nones, fnD, dSeq, dNext, dAsg, dAug, dDrop, dRet, dRetN, dIfS, dCB, dBM, dBM0, dCall, dMeth, dMake, dCons, dNil, dVar, slot, dC, dUn, dOp, dTest, dChain, dAnd, dOr, dNot, dAndV, dOrV, dNotV, dIf, dTup, dLst, dLstM, dPar, dDicNew, dSl, dSlM, dNoPart, dPart, dFld, dFldS, gName', gSub', gTup', gNames, tyD, List.map_cons, List.map_nil, List.replicate, List.cons_append, List.nil_append, List.length_cons, List.length_nil, List.set, e_add_int, e_add_str, e_add_tup, e_add_lst, e_iadd_int, e_iadd_str, e_sub, e_neg, e_mod, e_div, e_pow, e_mul_int, e_mul_str, e_mul_lst, e_mul_tup, e_lt_int, e_le_int, e_gt_int, e_ge_int, e_lt_str, e_eq_int, e_eq_str, e_ne_int, e_ne_str, e_in, e_notin, e_ix_str, e_ix_tup, e_ix_lst, e_ix_scr, e_sl_str, e_sl_tup, e_sl_lst, e_int_bl, e_int_int, e_max2, e_min2, oIs, oIsNot, true_and, and_true, Nat.zero_add, ↓reduceIte, Option.some.injEq, List.cons.injEq, D.str.injEq, D.int.injEq, D.bl.injEq, D.ref.injEq, exists_eq_left', exists_and_left, exists_eq_left]
  refine need_both_ok c.loop c.known fun G1 g1 => ?_
  intro s hs
  refine init_ok Gp.set_same c.loop c.le c.root c.known fun G2 t u gr g2 => ?_
  refine ⟨rfl, ?_⟩
  refine ⟨s, _, rfl, gr.ins, rfl, ?_⟩
  refine till_grown_ok gr (ginv_start c.loop c.le c.root c.known c.short) (by omega) (by show (dicOf ws).length + n < _; omega) (by omega) c.fin fun G3 gr3 b3 => ?_
  rw [Nat.zero_add] at gr3
  refine q _ s t u gr3 fun a o e => ?_
  have e1 := g1 a o e
  have as : a ≠ s := fun z => by rw [← z] at hs; rw [hs] at e1; cases e1
  obtain ⟨at_, au, e2⟩ := g2 a o as (by rw [Gp.set_ne as]; exact e1)
  rw [b3 a as at_ au]
  exact e2
theorem grown_by_ok {l : List Nat} {d : Nat} {ws : List (List Nat)} {n : Nat} (c : Case l d ws n) (q : ∀ G', Le G G' → Q (.int n) G') : sp_grown_by K [.str l, .tup (ws.map D.str)] G ex Q := by
  have h4 := c.small
  refine fn_run rfl ?_
  dsimp only [r_grown_by, ini, nones, fnD, dSeq, dNext, dAsg, dAug, dDrop, dRet, dRetN, dIfS, dCB, dBM, dBM0, dCall, dMeth, dMake, dCons, dNil, dVar, slot, dC, dUn, dOp, dTest, dChain, dAnd, dOr, dNot, dAndV, dOrV, dNotV, dIf, dTup, dLst, dLstM, dPar, dDicNew, dSl, dSlM, dNoPart, dPart, dFld, dFldS, gName', gSub', gTup', gNames, tyD, List.map_cons, List.map_nil, List.replicate, List.cons_append, List.nil_append, List.length_cons, List.length_nil, List.set, e_add_int, e_add_str, e_add_tup, e_add_lst, e_iadd_int, e_iadd_str, e_sub, e_neg, e_mod, e_div, e_pow, e_mul_int, e_mul_str, e_mul_lst, e_mul_tup, e_lt_int, e_le_int, e_gt_int, e_ge_int, e_lt_str, e_eq_int, e_eq_str, e_ne_int, e_ne_str, e_in, e_notin, e_ix_str, e_ix_tup, e_ix_lst, e_ix_scr, e_sl_str, e_sl_tup, e_sl_lst, e_int_bl, e_int_int, e_max2, e_min2, oIs, oIsNot, true_and, and_true, Nat.zero_add, ↓reduceIte, Option.some.injEq, List.cons.injEq, D.str.injEq, D.int.injEq, D.bl.injEq, D.ref.injEq, exists_eq_left', exists_and_left, exists_eq_left]
  refine grown_ok c fun G' s t u gr g => ?_
  obtain ⟨wl, hu, hl⟩ := gr.new
  refine ⟨s, _, _, rfl, gr.ins, rfl, ?_⟩
  refine len_of (d := .ref u) (n := n) ?_ (by omega) (q G' g)
  show (match G' u with | some (.lst ds) => some ds.length | some (.dic kvs) => some kvs.length | _ => none) = _
  rw [hu]
  exact congrArg some hl
theorem coder_then_ok {l : List Nat} {d : Nat} {ws : List (List Nat)} {n : Nat} (c : Case l d ws n) (q : ∀ G', Le G G' → Q (.tup [.int (endG l d ws n).2, .tup (lens (l.take d) (endG l d ws n).1)]) G') : sp_coder_then K [.str l, .tup (ws.map D.str)] G ex Q := by
  refine fn_run rfl ?_
  dsimp only [r_coder_then, ini, nones, fnD, dSeq, dNext, dAsg, dAug, dDrop, dRet, dRetN, dIfS, dCB, dBM, dBM0, dCall, dMeth, dMake, dCons, dNil, dVar, slot, dC, dUn, dOp, dTest, dChain, dAnd, dOr, dNot, dAndV, dOrV, dNotV, dIf, dTup, dLst, dLstM, dPar, dDicNew, dSl, dSlM, dNoPart, dPart, dFld, dFldS, gName', gSub', gTup', gNames, tyD, List.map_cons, List.map_nil, List.replicate, List.cons_append, List.nil_append, List.length_cons, List.length_nil, List.set, e_add_int, e_add_str, e_add_tup, e_add_lst, e_iadd_int, e_iadd_str, e_sub, e_neg, e_mod, e_div, e_pow, e_mul_int, e_mul_str, e_mul_lst, e_mul_tup, e_lt_int, e_le_int, e_gt_int, e_ge_int, e_lt_str, e_eq_int, e_eq_str, e_ne_int, e_ne_str, e_in, e_notin, e_ix_str, e_ix_tup, e_ix_lst, e_ix_scr, e_sl_str, e_sl_tup, e_sl_lst, e_int_bl, e_int_int, e_max2, e_min2, oIs, oIsNot, true_and, and_true, Nat.zero_add, ↓reduceIte, Option.some.injEq, List.cons.injEq, D.str.injEq, D.int.injEq, D.bl.injEq, D.ref.injEq, exists_eq_left', exists_and_left, exists_eq_left]
  refine grown_ok c fun G' s t u gr g => ?_
  refine ⟨s, _, _, rfl, gr.ins, rfl, ?_⟩
  refine ⟨s, _, rfl, gr.ins, rfl, ?_⟩
  refine all_lengths_ok gr c.room ?_
  exact ⟨by decide, q G' g⟩
end Wk
/-! Q8: the law's own reading, and the law of loops till grown. -/
namespace Wk
open PySem PySem.Spec PyProof.Rows L2 Y Mw
variable {K : PySem.W.Frag} {G : Gp} {ex : DX} {Q : DK}

theorem law_base_ok {l : List Nat} {d : Nat} (hl : LoopOk l) (hd : d ≤ l.length) (hr : IsRoot l d) (q : Q (.str (l.take d)) G) : sp__law_base K [.str l] G ex Q := by
  have h0 := hl.pos
  have h12 := hl.few
  refine fn_run rfl ?_
  dsimp only [r__law_base, ini, nones, fnD, dSeq, dNext, dAsg, dAug, dDrop, dRet, dRetN, dIfS, dCB, dBM, dBM0, dCall, dMeth, dMake, dCons, dNil, dVar, slot, dC, dUn, dOp, dTest, dChain, dAnd, dOr, dNot, dAndV, dOrV, dNotV, dIf, dTup, dLst, dLstM, dPar, dDicNew, dSl, dSlM, dNoPart, dPart, dFld, dFldS, gName', gSub', gTup', gNames, tyD, List.map_cons, List.map_nil, List.replicate, List.cons_append, List.nil_append, List.length_cons, List.length_nil, List.set, e_add_int, e_add_str, e_add_tup, e_add_lst, e_iadd_int, e_iadd_str, e_sub, e_neg, e_mod, e_div, e_pow, e_mul_int, e_mul_str, e_mul_lst, e_mul_tup, e_lt_int, e_le_int, e_gt_int, e_ge_int, e_lt_str, e_eq_int, e_eq_str, e_ne_int, e_ne_str, e_in, e_notin, e_ix_str, e_ix_tup, e_ix_lst, e_ix_scr, e_sl_str, e_sl_tup, e_sl_lst, e_int_bl, e_int_int, e_max2, e_min2, oIs, oIsNot, true_and, and_true, Nat.zero_add, ↓reduceIte, Option.some.injEq, List.cons.injEq, D.str.injEq, D.int.injEq, D.bl.injEq, D.ref.injEq, exists_eq_left', exists_and_left, exists_eq_left]
  refine len_of (d := .str l) (n := l.length) rfl (by omega) ?_
  dsimp only [dFor, dRng2, ini, nones, fnD, dSeq, dNext, dAsg, dAug, dDrop, dRet, dRetN, dIfS, dCB, dBM, dBM0, dCall, dMeth, dMake, dCons, dNil, dVar, slot, dC, dUn, dOp, dTest, dChain, dAnd, dOr, dNot, dAndV, dOrV, dNotV, dIf, dTup, dLst, dLstM, dPar, dDicNew, dSl, dSlM, dNoPart, dPart, dFld, dFldS, gName', gSub', gTup', gNames, tyD, List.map_cons, List.map_nil, List.replicate, List.cons_append, List.nil_append, List.length_cons, List.length_nil, List.set, e_add_int, e_add_str, e_add_tup, e_add_lst, e_iadd_int, e_iadd_str, e_sub, e_neg, e_mod, e_div, e_pow, e_mul_int, e_mul_str, e_mul_lst, e_mul_tup, e_lt_int, e_le_int, e_gt_int, e_ge_int, e_lt_str, e_eq_int, e_eq_str, e_ne_int, e_ne_str, e_in, e_notin, e_ix_str, e_ix_tup, e_ix_lst, e_ix_scr, e_sl_str, e_sl_tup, e_sl_lst, e_int_bl, e_int_int, e_max2, e_min2, oIs, oIsNot, true_and, and_true, Nat.zero_add, ↓reduceIte, Option.some.injEq, List.cons.injEq, D.str.injEq, D.int.injEq, D.bl.injEq, D.ref.injEq, exists_eq_left', exists_and_left, exists_eq_left]
  refine ⟨by omega, ?_⟩
  have hlen : (numsFrom 1 ((l.length : Int) - 1).toNat).length = l.length - 1 := by rw [numsFrom_len]; omega
  refine for_inv (fun i σ G' => (∃ a, σ = [some (.str l), some (.int l.length), a]) ∧ G' = G ∧ ∀ e, e ≤ i → ¬ Per l e) (i := 0) ⟨⟨_, rfl⟩, rfl, fun e he p => by have := p.1; omega⟩ ?_ ?_
  · rintro j x σ G' hx ⟨⟨a, rfl⟩, rfl, hno⟩ N hN
    have hj : j < l.length - 1 := by rw [← hlen]; exact (List.getElem?_eq_some_iff.mp hx).1
    rw [numsFrom_get (by omega)] at hx
    cases hx
    dsimp only [ini, nones, fnD, dSeq, dNext, dAsg, dAug, dDrop, dRet, dRetN, dIfS, dCB, dBM, dBM0, dCall, dMeth, dMake, dCons, dNil, dVar, slot, dC, dUn, dOp, dTest, dChain, dAnd, dOr, dNot, dAndV, dOrV, dNotV, dIf, dTup, dLst, dLstM, dPar, dDicNew, dSl, dSlM, dNoPart, dPart, dFld, dFldS, gName', gSub', gTup', gNames, tyD, List.map_cons, List.map_nil, List.replicate, List.cons_append, List.nil_append, List.length_cons, List.length_nil, List.set, e_add_int, e_add_str, e_add_tup, e_add_lst, e_iadd_int, e_iadd_str, e_sub, e_neg, e_mod, e_div, e_pow, e_mul_int, e_mul_str, e_mul_lst, e_mul_tup, e_lt_int, e_le_int, e_gt_int, e_ge_int, e_lt_str, e_eq_int, e_eq_str, e_ne_int, e_ne_str, e_in, e_notin, e_ix_str, e_ix_tup, e_ix_lst, e_ix_scr, e_sl_str, e_sl_tup, e_sl_lst, e_int_bl, e_int_int, e_max2, e_min2, oIs, oIsNot, true_and, and_true, Nat.zero_add, ↓reduceIte, Option.some.injEq, List.cons.injEq, D.str.injEq, D.int.injEq, D.bl.injEq, D.ref.injEq, exists_eq_left', exists_and_left, exists_eq_left]
    refine ⟨by omega, ?_⟩
    have e1 : (1 + (j : Int)) = ((j + 1 : Nat) : Int) := by omega
    have e2 : (((l.length : Int) % (1 + (j : Int)) = 0)) ↔ l.length % (j + 1) = 0 := by
      rw [e1, ← Int.natCast_emod]
      omega
    have e3 : decide ((l.length : Int) % (1 + (j : Int)) = 0) = decide (l.length % (j + 1) = 0) := decide_eq_decide.mpr e2
    rw [e3]
    have piff := per_iff_shift (l := l) (d := j + 1) (by omega) (by omega)
    have next : ¬ Per l (j + 1) → N [some (.str l), some (.int l.length), some (.int (1 + (j : Int)))] G' := fun hp => hN _ G' G' Le.refl ⟨⟨_, rfl⟩, rfl, fun e he => by
      by_cases z : e = j + 1
      · rw [z]; exact hp
      · exact hno e (by omega)⟩
    by_cases c1 : l.length % (j + 1) = 0
    · rw [decide_eq_true c1]
      refine ⟨by omega, by omega, ?_⟩
      rw [cut_from (by omega), cut_to (by omega), show (1 + (j : Int)).toNat = j + 1 by omega, show ((l.length : Int) - (1 + (j : Int))).toNat = l.length - (j + 1) by omega]
      by_cases c2 : l.drop (j + 1) = l.take (l.length - (j + 1))
      · rw [decide_eq_true c2]
        have hp : Per l (j + 1) := piff.mp ⟨c1, c2⟩
        have e : d = j + 1 := hr.uniq ⟨hp, fun e he => hno e (by omega)⟩
        refine ⟨by omega, ?_⟩
        rw [cut_to (by omega), show (1 + (j : Int)).toNat = j + 1 by omega, ← e]
        exact q
      · rw [decide_eq_false c2]
        exact next fun hp => c2 (piff.mpr hp).2
    · rw [decide_eq_false c1]
      exact next fun hp => c1 (piff.mpr hp).1
  · rintro σ G' ⟨⟨a, rfl⟩, rfl, hno⟩
    dsimp only [ini, nones, fnD, dSeq, dNext, dAsg, dAug, dDrop, dRet, dRetN, dIfS, dCB, dBM, dBM0, dCall, dMeth, dMake, dCons, dNil, dVar, slot, dC, dUn, dOp, dTest, dChain, dAnd, dOr, dNot, dAndV, dOrV, dNotV, dIf, dTup, dLst, dLstM, dPar, dDicNew, dSl, dSlM, dNoPart, dPart, dFld, dFldS, gName', gSub', gTup', gNames, tyD, List.map_cons, List.map_nil, List.replicate, List.cons_append, List.nil_append, List.length_cons, List.length_nil, List.set, e_add_int, e_add_str, e_add_tup, e_add_lst, e_iadd_int, e_iadd_str, e_sub, e_neg, e_mod, e_div, e_pow, e_mul_int, e_mul_str, e_mul_lst, e_mul_tup, e_lt_int, e_le_int, e_gt_int, e_ge_int, e_lt_str, e_eq_int, e_eq_str, e_ne_int, e_ne_str, e_in, e_notin, e_ix_str, e_ix_tup, e_ix_lst, e_ix_scr, e_sl_str, e_sl_tup, e_sl_lst, e_int_bl, e_int_int, e_max2, e_min2, oIs, oIsNot, true_and, and_true, Nat.zero_add, ↓reduceIte, Option.some.injEq, List.cons.injEq, D.str.injEq, D.int.injEq, D.bl.injEq, D.ref.injEq, exists_eq_left', exists_and_left, exists_eq_left]
    rw [hlen] at hno
    have e : d = l.length := by
      by_cases z : d = l.length
      · exact z
      · exact absurd hr.1 (hno d (by omega))
    have e2 : l.take d = l := by rw [e]; exact List.take_length
    rw [e2] at q
    exact q
theorem law_longest_ok {b : List Nat} {t : Addr} {kvs : Kv} {i B : Nat} (ht : G t = some (.dic kvs)) (hb : b.length ≤ 12) (hi : i < b.length) (hB : ∀ w, inK kvs w = true → w.length ≤ B) (hB2 : B < 900000) (q : Q (.int (LA b kvs i)) G) : sp__law_longest K [.str b, .ref t, .int i] G ex Q := by
  have hL := LA_ok b kvs i
  have hl := hL.le hB
  refine fn_run rfl ?_
  dsimp only [r__law_longest, ini, nones, fnD, dSeq, dNext, dAsg, dAug, dDrop, dRet, dRetN, dIfS, dCB, dBM, dBM0, dCall, dMeth, dMake, dCons, dNil, dVar, slot, dC, dUn, dOp, dTest, dChain, dAnd, dOr, dNot, dAndV, dOrV, dNotV, dIf, dTup, dLst, dLstM, dPar, dDicNew, dSl, dSlM, dNoPart, dPart, dFld, dFldS, gName', gSub', gTup', gNames, tyD, List.map_cons, List.map_nil, List.replicate, List.cons_append, List.nil_append, List.length_cons, List.length_nil, List.set, e_add_int, e_add_str, e_add_tup, e_add_lst, e_iadd_int, e_iadd_str, e_sub, e_neg, e_mod, e_div, e_pow, e_mul_int, e_mul_str, e_mul_lst, e_mul_tup, e_lt_int, e_le_int, e_gt_int, e_ge_int, e_lt_str, e_eq_int, e_eq_str, e_ne_int, e_ne_str, e_in, e_notin, e_ix_str, e_ix_tup, e_ix_lst, e_ix_scr, e_sl_str, e_sl_tup, e_sl_lst, e_int_bl, e_int_int, e_max2, e_min2, oIs, oIsNot, true_and, and_true, Nat.zero_add, ↓reduceIte, Option.some.injEq, List.cons.injEq, D.str.injEq, D.int.injEq, D.bl.injEq, D.ref.injEq, exists_eq_left', exists_and_left, exists_eq_left]
  refine ⟨by omega, b.getD i 0, atI_n (getD_get hi), ?_⟩
  have w1 : [b.getD i 0] = wd b i 1 := by
    unfold wd
    rw [List.range_one, List.map_singleton, Nat.add_zero, Nat.mod_eq_of_lt hi]
  rw [w1]
  refine ⟨fun m σ' G' => ∃ l : Nat, l + m = LA b kvs i ∧ σ' = [some (.str b), some (.ref t), some (.int i), some (.int l), some (.str (wd b i (l + 1)))] ∧ G' = G, ⟨LA b kvs i, 0, by omega, rfl, rfl⟩, ?_⟩
  rintro m σ' G' ⟨l, hlm, rfl, rfl⟩
  dsimp only [ini, nones, fnD, dSeq, dNext, dAsg, dAug, dDrop, dRet, dRetN, dIfS, dCB, dBM, dBM0, dCall, dMeth, dMake, dCons, dNil, dVar, slot, dC, dUn, dOp, dTest, dChain, dAnd, dOr, dNot, dAndV, dOrV, dNotV, dIf, dTup, dLst, dLstM, dPar, dDicNew, dSl, dSlM, dNoPart, dPart, dFld, dFldS, gName', gSub', gTup', gNames, tyD, List.map_cons, List.map_nil, List.replicate, List.cons_append, List.nil_append, List.length_cons, List.length_nil, List.set, e_add_int, e_add_str, e_add_tup, e_add_lst, e_iadd_int, e_iadd_str, e_sub, e_neg, e_mod, e_div, e_pow, e_mul_int, e_mul_str, e_mul_lst, e_mul_tup, e_lt_int, e_le_int, e_gt_int, e_ge_int, e_lt_str, e_eq_int, e_eq_str, e_ne_int, e_ne_str, e_in, e_notin, e_ix_str, e_ix_tup, e_ix_lst, e_ix_scr, e_sl_str, e_sl_tup, e_sl_lst, e_int_bl, e_int_int, e_max2, e_min2, oIs, oIsNot, true_and, and_true, Nat.zero_add, ↓reduceIte, Option.some.injEq, List.cons.injEq, D.str.injEq, D.int.injEq, D.bl.injEq, D.ref.injEq, exists_eq_left', exists_and_left, exists_eq_left]
  refine inB_dic ht ?_
  show (match inK kvs (wd b i (l + 1)) with | true => _ | false => _)
  by_cases hlL : l < LA b kvs i
  · rw [hL.1 l hlL]
    refine len_of (d := .str b) (n := b.length) rfl (by omega) ?_
    dsimp only [ini, nones, fnD, dSeq, dNext, dAsg, dAug, dDrop, dRet, dRetN, dIfS, dCB, dBM, dBM0, dCall, dMeth, dMake, dCons, dNil, dVar, slot, dC, dUn, dOp, dTest, dChain, dAnd, dOr, dNot, dAndV, dOrV, dNotV, dIf, dTup, dLst, dLstM, dPar, dDicNew, dSl, dSlM, dNoPart, dPart, dFld, dFldS, gName', gSub', gTup', gNames, tyD, List.map_cons, List.map_nil, List.replicate, List.cons_append, List.nil_append, List.length_cons, List.length_nil, List.set, e_add_int, e_add_str, e_add_tup, e_add_lst, e_iadd_int, e_iadd_str, e_sub, e_neg, e_mod, e_div, e_pow, e_mul_int, e_mul_str, e_mul_lst, e_mul_tup, e_lt_int, e_le_int, e_gt_int, e_ge_int, e_lt_str, e_eq_int, e_eq_str, e_ne_int, e_ne_str, e_in, e_notin, e_ix_str, e_ix_tup, e_ix_lst, e_ix_scr, e_sl_str, e_sl_tup, e_sl_lst, e_int_bl, e_int_int, e_max2, e_min2, oIs, oIsNot, true_and, and_true, Nat.zero_add, ↓reduceIte, Option.some.injEq, List.cons.injEq, D.str.injEq, D.int.injEq, D.bl.injEq, D.ref.injEq, exists_eq_left', exists_and_left, exists_eq_left]
    have e : ((i : Int) + ((l : Int) + 1)) % (b.length : Int) = (((i + (l + 1)) % b.length : Nat) : Int) := by
      rw [show ((i : Int) + ((l : Int) + 1)) = ((i + (l + 1) : Nat) : Int) by omega, ← Int.natCast_emod]
    rw [e]
    refine ⟨by omega, by omega, b.getD ((i + (l + 1)) % b.length) 0, atI_n (getD_get (Nat.mod_lt _ (by omega))), ?_, ?_⟩
    · rw [wd_len]; show l + 1 + 1 ≤ _; omega
    · refine ⟨G', Le.refl, m - 1, by omega, l + 1, by omega, ?_, rfl⟩
      rw [wd_succ (l := l + 1)]
      rfl
  · have e : l = LA b kvs i := by omega
    subst e
    rw [hL.2]
    exact q
/-- what the law finds: the words' number, the place, the lengths -/
theorem law_right_ok {l : List Nat} {d : Nat} {ws : List (List Nat)} {n : Nat} (c : Case l d ws n) (q : ∀ G', Le G G' → Q (.bl true) G') : sp__law_right K [.str l, .tup (ws.map D.str)] G ex Q := by
  have hfew := c.few
  have hsm := c.small
  have h12 := c.loop.few
  have hdl := dicOf_len ws
  have hinv := ginv_start c.loop c.le c.root c.known c.short
  have hpos := hinv.pos
  have hbl : (l.take d).length ≤ 12 := hinv.few
  refine fn_run rfl ?_
  dsimp only [r__law_right, ini, nones, fnD, dSeq, dNext, dAsg, dAug, dDrop, dRet, dRetN, dIfS, dCB, dBM, dBM0, dCall, dMeth, dMake, dCons, dNil, dVar, slot, dC, dUn, dOp, dTest, dChain, dAnd, dOr, dNot, dAndV, dOrV, dNotV, dIf, dTup, dLst, dLstM, dPar, dDicNew, dSl, dSlM, dNoPart, dPart, dFld, dFldS, gName', gSub', gTup', gNames, tyD, List.map_cons, List.map_nil, List.replicate, List.cons_append, List.nil_append, List.length_cons, List.length_nil, List.set, e_add_int, e_add_str, e_add_tup, e_add_lst, e_iadd_int, e_iadd_str, e_sub, e_neg, e_mod, e_div, e_pow, e_mul_int, e_mul_str, e_mul_lst, e_mul_tup, e_lt_int, e_le_int, e_gt_int, e_ge_int, e_lt_str, e_eq_int, e_eq_str, e_ne_int, e_ne_str, e_in, e_notin, e_ix_str, e_ix_tup, e_ix_lst, e_ix_scr, e_sl_str, e_sl_tup, e_sl_lst, e_int_bl, e_int_int, e_max2, e_min2, oIs, oIsNot, true_and, and_true, Nat.zero_add, ↓reduceIte, Option.some.injEq, List.cons.injEq, D.str.injEq, D.int.injEq, D.bl.injEq, D.ref.injEq, exists_eq_left', exists_and_left, exists_eq_left]
  refine law_base_ok c.loop c.le c.root ?_
  refine len_of (d := .str (l.take d)) (n := (l.take d).length) rfl (by omega) ?_
  refine ⟨by decide, fun f hf => ?_⟩
  dsimp only [dComp, dRow, rowOf, ini, nones, fnD, dSeq, dNext, dAsg, dAug, dDrop, dRet, dRetN, dIfS, dCB, dBM, dBM0, dCall, dMeth, dMake, dCons, dNil, dVar, slot, dC, dUn, dOp, dTest, dChain, dAnd, dOr, dNot, dAndV, dOrV, dNotV, dIf, dTup, dLst, dLstM, dPar, dDicNew, dSl, dSlM, dNoPart, dPart, dFld, dFldS, gName', gSub', gTup', gNames, tyD, List.map_cons, List.map_nil, List.replicate, List.cons_append, List.nil_append, List.length_cons, List.length_nil, List.set, e_add_int, e_add_str, e_add_tup, e_add_lst, e_iadd_int, e_iadd_str, e_sub, e_neg, e_mod, e_div, e_pow, e_mul_int, e_mul_str, e_mul_lst, e_mul_tup, e_lt_int, e_le_int, e_gt_int, e_ge_int, e_lt_str, e_eq_int, e_eq_str, e_ne_int, e_ne_str, e_in, e_notin, e_ix_str, e_ix_tup, e_ix_lst, e_ix_scr, e_sl_str, e_sl_tup, e_sl_lst, e_int_bl, e_int_int, e_max2, e_min2, oIs, oIsNot, true_and, and_true, Nat.zero_add, ↓reduceIte, Option.some.injEq, List.cons.injEq, D.str.injEq, D.int.injEq, D.bl.injEq, D.ref.injEq, exists_eq_left', exists_and_left, exists_eq_left]
  refine turns_map (f := fun x => .tup [x, .bl true]) (fun x hx T Fs hT hF => ?_) (by rw [List.length_map]; omega) ?_
  · dsimp only [TK.d, dwipe, dYes, ini, nones, fnD, dSeq, dNext, dAsg, dAug, dDrop, dRet, dRetN, dIfS, dCB, dBM, dBM0, dCall, dMeth, dMake, dCons, dNil, dVar, slot, dC, dUn, dOp, dTest, dChain, dAnd, dOr, dNot, dAndV, dOrV, dNotV, dIf, dTup, dLst, dLstM, dPar, dDicNew, dSl, dSlM, dNoPart, dPart, dFld, dFldS, gName', gSub', gTup', gNames, tyD, List.map_cons, List.map_nil, List.replicate, List.cons_append, List.nil_append, List.length_cons, List.length_nil, List.set, e_add_int, e_add_str, e_add_tup, e_add_lst, e_iadd_int, e_iadd_str, e_sub, e_neg, e_mod, e_div, e_pow, e_mul_int, e_mul_str, e_mul_lst, e_mul_tup, e_lt_int, e_le_int, e_gt_int, e_ge_int, e_lt_str, e_eq_int, e_eq_str, e_ne_int, e_ne_str, e_in, e_notin, e_ix_str, e_ix_tup, e_ix_lst, e_ix_scr, e_sl_str, e_sl_tup, e_sl_lst, e_int_bl, e_int_int, e_max2, e_min2, oIs, oIsNot, true_and, and_true, Nat.zero_add, ↓reduceIte, Option.some.injEq, List.cons.injEq, D.str.injEq, D.int.injEq, D.bl.injEq, D.ref.injEq, exists_eq_left', exists_and_left, exists_eq_left]
    exact ⟨by decide, hT rfl⟩
  refine dictP_of (kvs := ws.map fun w => (.inr w, .bl true)) ?_ fun t ht => ?_
  · show some _ = some _
    rw [List.map_map, List.map_map]
    rfl
  have hft : f ≠ t := fun e => by rw [← e, Gp.set_same] at ht; cases ht
  refine ⟨by decide, rfl, ?_⟩
  have gft : ∀ a o, G a = some o → a ≠ f ∧ a ≠ t := fun a o e => by
    have h1 : a ≠ f := fun z => by rw [z, hf] at e; cases e
    exact ⟨h1, fun z => by rw [← z, Gp.set_ne h1, e] at ht; cases ht⟩
  have g0 : Le G ((G.set f (.lst [])).set t (.dic (dmerge [] (ws.map fun w => (Sum.inr w, D.bl true))))) := fun a o e => by
    have h1 : a ≠ f := fun z => by rw [z, hf] at e; cases e
    have h2 : a ≠ t := fun z => by rw [← z, Gp.set_ne h1, e] at ht; cases ht
    rw [Gp.set_ne h2, Gp.set_ne h1]
    exact e
  -- the invariant: where reading stands, or that it has ended
  refine ⟨fun m σ G' => (G' f = some (.lst []) ∨ True) ∧ f ≠ t ∧ Le G G' ∧ ∃ (j : Nat) (found : List D) (due : D) (a1 a2 a3 a4 : Option D), j ≤ n ∧ σ = [some (.str l), some (.tup (ws.map D.str)), some (.str (l.take d)), some (.int (l.take d).length), some due, some (.ref f), some (.ref t), some (.int (endG l d ws j).2), a1, a2, a3, a4] ∧
      G' f = some (.lst found) ∧ found.length = j ∧ G' t = some (.dic (endG l d ws j).1) ∧
      ((due = .non ∧ m = n + 1 - j) ∨ (j = n ∧ m = 0 ∧ due = .tup [.int (endG l d ws n).2, .tup (lens (l.take d) (endG l d ws n).1)])), ⟨n + 1, .inr True.intro, hft, g0, 0, [], .non, _, _, _, _, by omega, rfl, (by rw [Gp.set_ne hft, Gp.set_same]), rfl, Gp.set_same, .inl ⟨rfl, rfl⟩⟩, ?_⟩
  rintro m σ G' ⟨_, _, gle, j, found, due, a1, a2, a3, a4, hj, rfl, gf, hfl, gt, hdue⟩
  have rj : GInv (l.take d) (endG l d ws j) (400 + j) := hinv.iter j
  have lj : (endG l d ws j).1.length ≤ (dicOf ws).length + j := iterG_len j (dicOf ws, 0)
  dsimp only [ini, nones, fnD, dSeq, dNext, dAsg, dAug, dDrop, dRet, dRetN, dIfS, dCB, dBM, dBM0, dCall, dMeth, dMake, dCons, dNil, dVar, slot, dC, dUn, dOp, dTest, dChain, dAnd, dOr, dNot, dAndV, dOrV, dNotV, dIf, dTup, dLst, dLstM, dPar, dDicNew, dSl, dSlM, dNoPart, dPart, dFld, dFldS, gName', gSub', gTup', gNames, tyD, List.map_cons, List.map_nil, List.replicate, List.cons_append, List.nil_append, List.length_cons, List.length_nil, List.set, e_add_int, e_add_str, e_add_tup, e_add_lst, e_iadd_int, e_iadd_str, e_sub, e_neg, e_mod, e_div, e_pow, e_mul_int, e_mul_str, e_mul_lst, e_mul_tup, e_lt_int, e_le_int, e_gt_int, e_ge_int, e_lt_str, e_eq_int, e_eq_str, e_ne_int, e_ne_str, e_in, e_notin, e_ix_str, e_ix_tup, e_ix_lst, e_ix_scr, e_sl_str, e_sl_tup, e_sl_lst, e_int_bl, e_int_int, e_max2, e_min2, oIs, oIsNot, true_and, and_true, Nat.zero_add, ↓reduceIte, Option.some.injEq, List.cons.injEq, D.str.injEq, D.int.injEq, D.bl.injEq, D.ref.injEq, exists_eq_left', exists_and_left, exists_eq_left]
  rcases hdue with ⟨rfl, hm⟩ | ⟨hjn, hm, rfl⟩
  · -- not yet
    dsimp only [Y.isNon, dComp, dRng1, ini, nones, fnD, dSeq, dNext, dAsg, dAug, dDrop, dRet, dRetN, dIfS, dCB, dBM, dBM0, dCall, dMeth, dMake, dCons, dNil, dVar, slot, dC, dUn, dOp, dTest, dChain, dAnd, dOr, dNot, dAndV, dOrV, dNotV, dIf, dTup, dLst, dLstM, dPar, dDicNew, dSl, dSlM, dNoPart, dPart, dFld, dFldS, gName', gSub', gTup', gNames, tyD, List.map_cons, List.map_nil, List.replicate, List.cons_append, List.nil_append, List.length_cons, List.length_nil, List.set, e_add_int, e_add_str, e_add_tup, e_add_lst, e_iadd_int, e_iadd_str, e_sub, e_neg, e_mod, e_div, e_pow, e_mul_int, e_mul_str, e_mul_lst, e_mul_tup, e_lt_int, e_le_int, e_gt_int, e_ge_int, e_lt_str, e_eq_int, e_eq_str, e_ne_int, e_ne_str, e_in, e_notin, e_ix_str, e_ix_tup, e_ix_lst, e_ix_scr, e_sl_str, e_sl_tup, e_sl_lst, e_int_bl, e_int_int, e_max2, e_min2, oIs, oIsNot, true_and, and_true, Nat.zero_add, ↓reduceIte, Option.some.injEq, List.cons.injEq, D.str.injEq, D.int.injEq, D.bl.injEq, D.ref.injEq, exists_eq_left', exists_and_left, exists_eq_left]
    refine ⟨by omega, ?_⟩
    refine turns_map (f := fun x => match x with
      | .int i => .int (LA (l.take d) (endG l d ws j).1 i.toNat)
      | _ => .non) (fun x hx T Fs hT hF => ?_) (by rw [numsFrom_len]; omega) ?_
    · obtain ⟨i, hi, rfl⟩ := numsFrom_mem hx
      have h' := hT rfl
      dsimp only at h'
      rw [Int.zero_add, Int.toNat_natCast] at h'
      dsimp only [TK.d, dwipe, dYes, ini, nones, fnD, dSeq, dNext, dAsg, dAug, dDrop, dRet, dRetN, dIfS, dCB, dBM, dBM0, dCall, dMeth, dMake, dCons, dNil, dVar, slot, dC, dUn, dOp, dTest, dChain, dAnd, dOr, dNot, dAndV, dOrV, dNotV, dIf, dTup, dLst, dLstM, dPar, dDicNew, dSl, dSlM, dNoPart, dPart, dFld, dFldS, gName', gSub', gTup', gNames, tyD, List.map_cons, List.map_nil, List.replicate, List.cons_append, List.nil_append, List.length_cons, List.length_nil, List.set, e_add_int, e_add_str, e_add_tup, e_add_lst, e_iadd_int, e_iadd_str, e_sub, e_neg, e_mod, e_div, e_pow, e_mul_int, e_mul_str, e_mul_lst, e_mul_tup, e_lt_int, e_le_int, e_gt_int, e_ge_int, e_lt_str, e_eq_int, e_eq_str, e_ne_int, e_ne_str, e_in, e_notin, e_ix_str, e_ix_tup, e_ix_lst, e_ix_scr, e_sl_str, e_sl_tup, e_sl_lst, e_int_bl, e_int_int, e_max2, e_min2, oIs, oIsNot, true_and, and_true, Nat.zero_add, ↓reduceIte, Option.some.injEq, List.cons.injEq, D.str.injEq, D.int.injEq, D.bl.injEq, D.ref.injEq, exists_eq_left', exists_and_left, exists_eq_left]
      rw [Int.zero_add]
      exact law_longest_ok gt hbl (by omega) rj.max (by omega) h'
    have e : (numsFrom 0 ((l.take d).length : Int).toNat).map (fun x => match x with
      | .int i => D.int (LA (l.take d) (endG l d ws j).1 i.toNat)
      | _ => .non) = lens (l.take d) (endG l d ws j).1 := by
      unfold numsFrom lens
      rw [List.map_map, Int.toNat_natCast]
      refine List.map_congr_left fun i _ => ?_
      show D.int (LA (l.take d) (endG l d ws j).1 (0 + (i : Int)).toNat) = D.int (LA (l.take d) (endG l d ws j).1 i)
      rw [Int.zero_add, Int.toNat_natCast]
    rw [e]
    obtain ⟨x, xs, e1, e2⟩ := min_lens (kvs := (endG l d ws j).1) hpos
    refine min1_of (n := x) (ns := xs) (by show some _ = some _; rw [e1]) ?_
    dsimp only [ini, nones, fnD, dSeq, dNext, dAsg, dAug, dDrop, dRet, dRetN, dIfS, dCB, dBM, dBM0, dCall, dMeth, dMake, dCons, dNil, dVar, slot, dC, dUn, dOp, dTest, dChain, dAnd, dOr, dNot, dAndV, dOrV, dNotV, dIf, dTup, dLst, dLstM, dPar, dDicNew, dSl, dSlM, dNoPart, dPart, dFld, dFldS, gName', gSub', gTup', gNames, tyD, List.map_cons, List.map_nil, List.replicate, List.cons_append, List.nil_append, List.length_cons, List.length_nil, List.set, e_add_int, e_add_str, e_add_tup, e_add_lst, e_iadd_int, e_iadd_str, e_sub, e_neg, e_mod, e_div, e_pow, e_mul_int, e_mul_str, e_mul_lst, e_mul_tup, e_lt_int, e_le_int, e_gt_int, e_ge_int, e_lt_str, e_eq_int, e_eq_str, e_ne_int, e_ne_str, e_in, e_notin, e_ix_str, e_ix_tup, e_ix_lst, e_ix_scr, e_sl_str, e_sl_tup, e_sl_lst, e_int_bl, e_int_int, e_max2, e_min2, oIs, oIsNot, true_and, and_true, Nat.zero_add, ↓reduceIte, Option.some.injEq, List.cons.injEq, D.str.injEq, D.int.injEq, D.bl.injEq, D.ref.injEq, exists_eq_left', exists_and_left, exists_eq_left]
    rw [e2]
    by_cases ejn : j = n
    · rw [ejn, c.fin.yes]
      refine tup_of rfl ?_
      refine ⟨by decide, G', Le.refl, 0, by omega, .inr True.intro, hft, gle, n, found, _, _, _, _, _, Nat.le_refl _, rfl, gf, by omega, by rw [← ejn]; exact gt, .inr ⟨rfl, rfl, rfl⟩⟩
    · rw [c.fin.no j (by omega)]
      have pj := rj.at_
      have hla : LA (l.take d) (endG l d ws j).1 (endG l d ws j).2 ≤ 400 + j := (LA_ok _ _ _).le rj.max
      obtain ⟨L, hL⟩ : ∃ L, L = LA (l.take d) (endG l d ws j).1 (endG l d ws j).2 := ⟨_, rfl⟩
      have hget : atI (lens (l.take d) (endG l d ws j).1) ((endG l d ws j).2 : Int) = some (.int L) := by
        refine atI_n ?_
        unfold lens
        rw [List.getElem?_map, List.getElem?_range pj, hL]
        rfl
      rw [← hL] at hla
      refine ⟨.int L, hget, ?_⟩
      dsimp only [ini, nones, fnD, dSeq, dNext, dAsg, dAug, dDrop, dRet, dRetN, dIfS, dCB, dBM, dBM0, dCall, dMeth, dMake, dCons, dNil, dVar, slot, dC, dUn, dOp, dTest, dChain, dAnd, dOr, dNot, dAndV, dOrV, dNotV, dIf, dTup, dLst, dLstM, dPar, dDicNew, dSl, dSlM, dNoPart, dPart, dFld, dFldS, gName', gSub', gTup', gNames, tyD, List.map_cons, List.map_nil, List.replicate, List.cons_append, List.nil_append, List.length_cons, List.length_nil, List.set, e_add_int, e_add_str, e_add_tup, e_add_lst, e_iadd_int, e_iadd_str, e_sub, e_neg, e_mod, e_div, e_pow, e_mul_int, e_mul_str, e_mul_lst, e_mul_tup, e_lt_int, e_le_int, e_gt_int, e_ge_int, e_lt_str, e_eq_int, e_eq_str, e_ne_int, e_ne_str, e_in, e_notin, e_ix_str, e_ix_tup, e_ix_lst, e_ix_scr, e_sl_str, e_sl_tup, e_sl_lst, e_int_bl, e_int_int, e_max2, e_min2, oIs, oIsNot, true_and, and_true, Nat.zero_add, ↓reduceIte, Option.some.injEq, List.cons.injEq, D.str.injEq, D.int.injEq, D.bl.injEq, D.ref.injEq, exists_eq_left', exists_and_left, exists_eq_left]
      have eL : ((L : Int) + 1) = ((L + 1 : Nat) : Int) := by omega
      rw [eL]
      have eq1 : (((L + 1 : Nat) : Int) / ((l.take d).length : Int)) = (((L + 1) / (l.take d).length : Nat) : Int) := (Int.natCast_ediv ..).symm
      rw [eq1]
      have q1 : (L + 1) / (l.take d).length ≤ L + 1 := Nat.div_le_self ..
      have q2 : (l.take d).length * ((L + 1) / (l.take d).length) ≤ L + 1 := Nat.mul_div_le ..
      have q3 : ((((L + 1) / (l.take d).length : Nat) : Int) + 2).toNat = (L + 1) / (l.take d).length + 2 := by generalize (L + 1) / (l.take d).length = z; omega
      have q4 : (l.take d).length * ((L + 1) / (l.take d).length + 2) = (l.take d).length * ((L + 1) / (l.take d).length) + (l.take d).length * 2 := Nat.mul_add ..
      rw [q3]
      refine ⟨⟨by omega, by unfold BB; omega⟩, ⟨?_, by omega, ?_⟩, ?_⟩
      · generalize (L + 1) / (l.take d).length = z at q1 ⊢; omega
      · generalize (L + 1) / (l.take d).length = z at q1 ⊢; omega
      refine ⟨by rw [rep_len, Nat.mul_comm]; omega, ?_⟩
      rw [cut_part (by omega) (by omega)]
      have e5 : ((rep ((L + 1) / (l.take d).length + 2) (l.take d)).drop ((endG l d ws j).2 : Int).toNat).take ((((endG l d ws j).2 : Int) + ((L + 1 : Nat) : Int)).toNat - ((endG l d ws j).2 : Int).toNat) = wd (l.take d) (endG l d ws j).2 (L + 1) := by
        have d1 := Nat.div_add_mod (L + 1) (l.take d).length
        have d2 := Nat.mod_lt (L + 1) hpos
        have d3 : (repN ((L + 1) / (l.take d).length + 2) (l.take d)).length = (l.take d).length * ((L + 1) / (l.take d).length) + 2 * (l.take d).length := by rw [repN_len, Nat.add_mul, Nat.mul_comm]
        have t1 : (((endG l d ws j).2 : Int) + ((L + 1 : Nat) : Int)).toNat - ((endG l d ws j).2 : Int).toNat = L + 1 := by omega
        rw [t1, Int.toNat_natCast, rep_eq]
        refine ext_getD (by rw [List.length_take, List.length_drop, d3, wd_len]; omega) fun k hk => ?_
        rw [List.length_take] at hk
        rw [take_getD (by omega), Mw.drop_getD, repN_get (by rw [← repN_len, d3]; omega)]
        have e6 := wd_get (b := l.take d) (i := (endG l d ws j).2) (show k < L + 1 by omega)
        rw [getD_get (by rw [wd_len]; omega)] at e6
        exact (Option.some.inj e6).symm
      rw [e5]
      refine set_dic gt (k := .inr (wd (l.take d) (endG l d ws j).2 (L + 1))) rfl (by omega) ?_
      have gf1 : (G'.set t (.dic (dput (endG l d ws j).1 (.inr (wd (l.take d) (endG l d ws j).2 (L + 1))) (.bl true)))) f = some (.lst found) := by rw [Gp.set_ne hft]; exact gf
      refine ⟨.inl ⟨rfl, found, gf1⟩, append_of gf1 (by omega) ?_⟩
      have e7 : (((endG l d ws j).2 : Int) + ((L + 1 : Nat) : Int)) % ((l.take d).length : Int) = ((((endG l d ws j).2 + L + 1) % (l.take d).length : Nat) : Int) := by
        rw [← Int.natCast_add, ← Int.natCast_emod]
        rfl
      rw [e7]
      have est : endG l d ws (j + 1) = stepG (l.take d) (endG l d ws j) := iterG_succ _ _ _
      have es2 : (endG l d ws (j + 1)).2 = ((endG l d ws j).2 + L + 1) % (l.take d).length := by rw [est, hL]; rfl
      have es1 : (endG l d ws (j + 1)).1 = dput (endG l d ws j).1 (.inr (wd (l.take d) (endG l d ws j).2 (L + 1))) (.bl true) := by rw [est, hL]; rfl
      refine ⟨by omega, _, Le.refl, m - 1, by omega, .inr True.intro, hft, fun a o e => ?_, j + 1, _, .non, _, _, _, _, by omega, (by rw [es2]), Gp.set_same, ?_, ?_, .inl ⟨rfl, by omega⟩⟩
      · obtain ⟨n1, n2⟩ := gft a o e
        rw [Gp.set_ne n1, Gp.set_ne n2]
        exact gle a o e
      · rw [List.length_append, List.length_singleton, hfl]
      · rw [Gp.set_ne hft.symm, Gp.set_same, es1]
  · -- it has grown
    subst hjn
    dsimp only [Y.isNon, ini, nones, fnD, dSeq, dNext, dAsg, dAug, dDrop, dRet, dRetN, dIfS, dCB, dBM, dBM0, dCall, dMeth, dMake, dCons, dNil, dVar, slot, dC, dUn, dOp, dTest, dChain, dAnd, dOr, dNot, dAndV, dOrV, dNotV, dIf, dTup, dLst, dLstM, dPar, dDicNew, dSl, dSlM, dNoPart, dPart, dFld, dFldS, gName', gSub', gTup', gNames, tyD, List.map_cons, List.map_nil, List.replicate, List.cons_append, List.nil_append, List.length_cons, List.length_nil, List.set, e_add_int, e_add_str, e_add_tup, e_add_lst, e_iadd_int, e_iadd_str, e_sub, e_neg, e_mod, e_div, e_pow, e_mul_int, e_mul_str, e_mul_lst, e_mul_tup, e_lt_int, e_le_int, e_gt_int, e_ge_int, e_lt_str, e_eq_int, e_eq_str, e_ne_int, e_ne_str, e_in, e_notin, e_ix_str, e_ix_tup, e_ix_lst, e_ix_scr, e_sl_str, e_sl_tup, e_sl_lst, e_int_bl, e_int_int, e_max2, e_min2, oIs, oIsNot, true_and, and_true, Nat.zero_add, ↓reduceIte, Option.some.injEq, List.cons.injEq, D.str.injEq, D.int.injEq, D.bl.injEq, D.ref.injEq, exists_eq_left', exists_and_left, exists_eq_left]
    refine grown_by_ok c fun G1 g1 => ?_
    refine coder_then_ok c fun G2 g2 => ?_
    have hL : ∀ (kvs : Kv), lens (l.take d) kvs = ((List.range (l.take d).length).map fun i => (LA (l.take d) kvs i : Int)).map D.int := fun kvs => by unfold lens; rw [List.map_map]; rfl
    obtain ⟨ls, hls⟩ : ∃ ls, ls = (List.range (l.take d).length).map fun i => (LA (l.take d) (endG l d ws j).1 i : Int) := ⟨_, rfl⟩
    have lsl : ls.length = (l.take d).length := by rw [hls, List.length_map, List.length_range]
    have ok1 : okRs (ls.map D.int) = true := okRs_ints fun i hi => by
      rw [hls] at hi
      obtain ⟨k, _, rfl⟩ := List.mem_map.mp hi
      have := (LA_ok (l.take d) (endG l d ws j).1 k).le rj.max
      exact log_int (by omega) (by omega)
    have ok2 : okR (.lst [.int (j : Int), .tup [.int (endG l d ws j).2, .tup (ls.map D.int)]]) = true := by
      have pj := rj.at_
      simp only [okR, okRs, ok1, decide_eq_true (log_int (i := (j : Int)) (by omega) (by omega)), decide_eq_true (log_int (i := ((endG l d ws j).2 : Int)) (by omega) (by omega)), Bool.and_true, Bool.and_self]
    have w1 : wg (.lst [.int (j : Int), .tup [.int (endG l d ws j).2, .tup (ls.map D.int)]]) ≤ 10000000 := by
      show 1921 + 2 + ((1921 + 2 + ((wgs (ls.map D.int) + 3) + 2 + 0)) + 3 + 2 + 0) + 2 ≤ _
      rw [wgs_ints]
      omega
    have sh1 : ∀ (is : List Int) (k : Nat), shs k (is.map D.int) = true := fun is k => by
      induction is with
      | nil => cases k <;> rfl
      | cons x xs ih =>
        have : shs k (D.int x :: xs.map D.int) = (sh k (.int x) && shs k (xs.map D.int)) := by cases k <;> rfl
        rw [List.map_cons, this, ih]
        cases k <;> rfl
    have sh2 : sh 60 (.lst [.int (j : Int), .tup [.int (endG l d ws j).2, .tup (ls.map D.int)]]) = true := by
      simp only [sh, shs, sh1, Bool.and_true]
    rw [hL, ← hls]
    refine ⟨by decide, ?_⟩
    refine repr_ok (d := .lst [.int (j : Int), .tup [.int (endG l d ws j).2, .tup (ls.map D.int)]]) rfl sh2 ok2 w1 rfl ?_
    have le02 : Le G' G2 := g1.trans g2
    refine len_of (d := .ref f) (n := j) ?_ (by omega) ?_
    · show (match G2 f with | some (.lst ds) => some ds.length | some (.dic kvs) => some kvs.length | _ => none) = _
      rw [le02 f _ gf]
      exact congrArg some hfl
    refine ⟨by decide, ?_⟩
    refine repr_ok (d := .lst [.int (j : Int), .tup [.int (endG l d ws j).2, .tup (ls.map D.int)]]) rfl sh2 ok2 w1 rfl ?_
    dsimp only [ini, nones, fnD, dSeq, dNext, dAsg, dAug, dDrop, dRet, dRetN, dIfS, dCB, dBM, dBM0, dCall, dMeth, dMake, dCons, dNil, dVar, slot, dC, dUn, dOp, dTest, dChain, dAnd, dOr, dNot, dAndV, dOrV, dNotV, dIf, dTup, dLst, dLstM, dPar, dDicNew, dSl, dSlM, dNoPart, dPart, dFld, dFldS, gName', gSub', gTup', gNames, tyD, List.map_cons, List.map_nil, List.replicate, List.cons_append, List.nil_append, List.length_cons, List.length_nil, List.set, e_add_int, e_add_str, e_add_tup, e_add_lst, e_iadd_int, e_iadd_str, e_sub, e_neg, e_mod, e_div, e_pow, e_mul_int, e_mul_str, e_mul_lst, e_mul_tup, e_lt_int, e_le_int, e_gt_int, e_ge_int, e_lt_str, e_eq_int, e_eq_str, e_ne_int, e_ne_str, e_in, e_notin, e_ix_str, e_ix_tup, e_ix_lst, e_ix_scr, e_sl_str, e_sl_tup, e_sl_lst, e_int_bl, e_int_int, e_max2, e_min2, oIs, oIsNot, true_and, and_true, Nat.zero_add, ↓reduceIte, Option.some.injEq, List.cons.injEq, D.str.injEq, D.int.injEq, D.bl.injEq, D.ref.injEq, exists_eq_left', exists_and_left, exists_eq_left]
    rw [decide_eq_true rfl]
    exact q G2 (gle.trans le02)
end Wk
/-! Q9: the law of loops till grown. -/
namespace Wk
open PySem PySem.Spec PyProof.Rows L2 Y Mw
variable {K : PySem.W.Frag} {G : Gp} {ex : DX} {Q : DK}

theorem law_pot_ok {ns : List Int} {k : Nat} (hk : k < 100) (hl : ns.length ≤ 63) (q : ∀ p G', G p = none → PotAt G' p 0 → But p G G' → Q (.ref p) G') : sp__law_pot K [.scr ns, .int k] G ex Q := by
  refine fn_run rfl ?_
  dsimp only [r__law_pot, ini, nones, fnD, dSeq, dNext, dAsg, dAug, dDrop, dRet, dRetN, dIfS, dCB, dBM, dBM0, dCall, dMeth, dMake, dCons, dNil, dVar, slot, dC, dUn, dOp, dTest, dChain, dAnd, dOr, dNot, dAndV, dOrV, dNotV, dIf, dTup, dLst, dLstM, dPar, dDicNew, dSl, dSlM, dNoPart, dPart, dFld, dFldS, gName', gSub', gTup', gNames, tyD, List.map_cons, List.map_nil, List.replicate, List.cons_append, List.nil_append, List.length_cons, List.length_nil, List.set, e_add_int, e_add_str, e_add_tup, e_add_lst, e_iadd_int, e_iadd_str, e_sub, e_neg, e_mod, e_div, e_pow, e_mul_int, e_mul_str, e_mul_lst, e_mul_tup, e_lt_int, e_le_int, e_gt_int, e_ge_int, e_lt_str, e_eq_int, e_eq_str, e_ne_int, e_ne_str, e_in, e_notin, e_ix_str, e_ix_tup, e_ix_lst, e_ix_scr, e_sl_str, e_sl_tup, e_sl_lst, e_int_bl, e_int_int, e_max2, e_min2, oIs, oIsNot, true_and, and_true, Nat.zero_add, ↓reduceIte, Option.some.injEq, List.cons.injEq, D.str.injEq, D.int.injEq, D.bl.injEq, D.ref.injEq, exists_eq_left', exists_and_left, exists_eq_left]
  refine len_of (d := .scr ns) (n := ns.length) rfl (by omega) ?_
  -- behind the cell is read
  have tail : ∀ cell : Int, (dSeq (dRet (dLstM (dCons (dCB cMax2 (dCons (dC (.int 0)) (dCons (dOp oSub (dVar 2) (dOp oPow (dC (.int 10)) (dC (.int 18)))) dNil))) (dCons (dOp oAdd (dOp oAdd (dOp oMul (dOp oMod (dVar 2) (dOp oAdd (dOp oPow (dC (.int 10)) (dC (.int 34))) (dC (.int 193)))) (dC (.int 64))) (dVar 1)) (dC (.int 1))) (dCons (dC (.int 0)) dNil))))) dNext)
      { nx := fun _ G' => Q .non G', rt := Q, ex := ex } [some (.scr ns), some (.int k), some (.int cell)] G := by
    intro cell
    dsimp only [ini, nones, fnD, dSeq, dNext, dAsg, dAug, dDrop, dRet, dRetN, dIfS, dCB, dBM, dBM0, dCall, dMeth, dMake, dCons, dNil, dVar, slot, dC, dUn, dOp, dTest, dChain, dAnd, dOr, dNot, dAndV, dOrV, dNotV, dIf, dTup, dLst, dLstM, dPar, dDicNew, dSl, dSlM, dNoPart, dPart, dFld, dFldS, gName', gSub', gTup', gNames, tyD, List.map_cons, List.map_nil, List.replicate, List.cons_append, List.nil_append, List.length_cons, List.length_nil, List.set, e_add_int, e_add_str, e_add_tup, e_add_lst, e_iadd_int, e_iadd_str, e_sub, e_neg, e_mod, e_div, e_pow, e_mul_int, e_mul_str, e_mul_lst, e_mul_tup, e_lt_int, e_le_int, e_gt_int, e_ge_int, e_lt_str, e_eq_int, e_eq_str, e_ne_int, e_ne_str, e_in, e_notin, e_ix_str, e_ix_tup, e_ix_lst, e_ix_scr, e_sl_str, e_sl_tup, e_sl_lst, e_int_bl, e_int_int, e_max2, e_min2, oIs, oIsNot, true_and, and_true, Nat.zero_add, ↓reduceIte, Option.some.injEq, List.cons.injEq, D.str.injEq, D.int.injEq, D.bl.injEq, D.ref.injEq, exists_eq_left', exists_and_left, exists_eq_left]
    refine ⟨⟨by decide, by decide, by decide⟩, ?_⟩
    refine max2_of ?_
    have p34 : (10 : Int) ^ Int.toNat 34 + 193 = 10000000000000000000000000000000193 := by decide
    rw [p34]
    have z0 := Int.emod_nonneg cell (show (10000000000000000000000000000000193 : Int) ≠ 0 by decide)
    have z1 := Int.emod_lt_of_pos cell (show (0 : Int) < 10000000000000000000000000000000193 by decide)
    obtain ⟨z, hz⟩ : ∃ z, z = cell % 10000000000000000000000000000000193 := ⟨_, rfl⟩
    rw [← hz] at z0 z1 ⊢
    refine ⟨⟨by decide, by decide, by decide⟩, by decide, ⟨BB_big z0 (Int.lt_trans z1 (by decide)), by decide⟩, by decide, fun p hp => ?_⟩
    refine q p _ hp ⟨_, _, _, Gp.set_same, by split <;> omega, by omega, by rw [pow40]; omega, by decide, by decide⟩ But.set
  by_cases c : (k : Int) < (ns.length : Int)
  · dsimp only [ini, nones, fnD, dSeq, dNext, dAsg, dAug, dDrop, dRet, dRetN, dIfS, dCB, dBM, dBM0, dCall, dMeth, dMake, dCons, dNil, dVar, slot, dC, dUn, dOp, dTest, dChain, dAnd, dOr, dNot, dAndV, dOrV, dNotV, dIf, dTup, dLst, dLstM, dPar, dDicNew, dSl, dSlM, dNoPart, dPart, dFld, dFldS, gName', gSub', gTup', gNames, tyD, List.map_cons, List.map_nil, List.replicate, List.cons_append, List.nil_append, List.length_cons, List.length_nil, List.set, e_add_int, e_add_str, e_add_tup, e_add_lst, e_iadd_int, e_iadd_str, e_sub, e_neg, e_mod, e_div, e_pow, e_mul_int, e_mul_str, e_mul_lst, e_mul_tup, e_lt_int, e_le_int, e_gt_int, e_ge_int, e_lt_str, e_eq_int, e_eq_str, e_ne_int, e_ne_str, e_in, e_notin, e_ix_str, e_ix_tup, e_ix_lst, e_ix_scr, e_sl_str, e_sl_tup, e_sl_lst, e_int_bl, e_int_int, e_max2, e_min2, oIs, oIsNot, true_and, and_true, Nat.zero_add, ↓reduceIte, Option.some.injEq, List.cons.injEq, D.str.injEq, D.int.injEq, D.bl.injEq, D.ref.injEq, exists_eq_left', exists_and_left, exists_eq_left]
    rw [decide_eq_true c]
    exact ⟨ns.getD k 0, atI_n (by rw [List.getD_eq_getElem?_getD, List.getElem?_eq_getElem (by omega)]; rfl), tail _⟩
  · dsimp only [ini, nones, fnD, dSeq, dNext, dAsg, dAug, dDrop, dRet, dRetN, dIfS, dCB, dBM, dBM0, dCall, dMeth, dMake, dCons, dNil, dVar, slot, dC, dUn, dOp, dTest, dChain, dAnd, dOr, dNot, dAndV, dOrV, dNotV, dIf, dTup, dLst, dLstM, dPar, dDicNew, dSl, dSlM, dNoPart, dPart, dFld, dFldS, gName', gSub', gTup', gNames, tyD, List.map_cons, List.map_nil, List.replicate, List.cons_append, List.nil_append, List.length_cons, List.length_nil, List.set, e_add_int, e_add_str, e_add_tup, e_add_lst, e_iadd_int, e_iadd_str, e_sub, e_neg, e_mod, e_div, e_pow, e_mul_int, e_mul_str, e_mul_lst, e_mul_tup, e_lt_int, e_le_int, e_gt_int, e_ge_int, e_lt_str, e_eq_int, e_eq_str, e_ne_int, e_ne_str, e_in, e_notin, e_ix_str, e_ix_tup, e_ix_lst, e_ix_scr, e_sl_str, e_sl_tup, e_sl_lst, e_int_bl, e_int_int, e_max2, e_min2, oIs, oIsNot, true_and, and_true, Nat.zero_add, ↓reduceIte, Option.some.injEq, List.cons.injEq, D.str.injEq, D.int.injEq, D.bl.injEq, D.ref.injEq, exists_eq_left', exists_and_left, exists_eq_left]
    rw [decide_eq_false c]
    exact tail 0
theorem known_nil : KnownOk [] := ⟨fun _ h => absurd h List.not_mem_nil, .nil, fun _ h => absurd h List.not_mem_nil, by decide⟩
theorem known_b : KnownOk [[98]] := ⟨fun w h => by rw [List.mem_singleton.mp h]; exact ⟨rfl, by decide, by decide⟩, by simp, fun w h => by rw [List.mem_singleton.mp h]; exact .inl rfl, by decide⟩
theorem law_ok (K : PySem.W.Frag) (ns : List Int) (hl : ns.length ≤ 63) : sp_law K [.scr ns] (fun _ => none) (fun _ _ => False) fun d _ => d = .bl true := by
  have e19 : (10 : Nat) ^ 19 = 10000000000000000000 := by decide
  refine fn_run rfl ?_
  dsimp only [r_law, dFor, dRng1, ini, nones, fnD, dSeq, dNext, dAsg, dAug, dDrop, dRet, dRetN, dIfS, dCB, dBM, dBM0, dCall, dMeth, dMake, dCons, dNil, dVar, slot, dC, dUn, dOp, dTest, dChain, dAnd, dOr, dNot, dAndV, dOrV, dNotV, dIf, dTup, dLst, dLstM, dPar, dDicNew, dSl, dSlM, dNoPart, dPart, dFld, dFldS, gName', gSub', gTup', gNames, tyD, List.map_cons, List.map_nil, List.replicate, List.cons_append, List.nil_append, List.length_cons, List.length_nil, List.set, e_add_int, e_add_str, e_add_tup, e_add_lst, e_iadd_int, e_iadd_str, e_sub, e_neg, e_mod, e_div, e_pow, e_mul_int, e_mul_str, e_mul_lst, e_mul_tup, e_lt_int, e_le_int, e_gt_int, e_ge_int, e_lt_str, e_eq_int, e_eq_str, e_ne_int, e_ne_str, e_in, e_notin, e_ix_str, e_ix_tup, e_ix_lst, e_ix_scr, e_sl_str, e_sl_tup, e_sl_lst, e_int_bl, e_int_int, e_max2, e_min2, oIs, oIsNot, true_and, and_true, Nat.zero_add, ↓reduceIte, Option.some.injEq, List.cons.injEq, D.str.injEq, D.int.injEq, D.bl.injEq, D.ref.injEq, exists_eq_left', exists_and_left, exists_eq_left]
  refine len_of (d := .scr ns) (n := ns.length) rfl (by omega) ?_
  refine min2_of (max2_of ?_)
  obtain ⟨cnt, hcnt, hc4⟩ : ∃ cnt : Nat, (if (if (ns.length : Int) < 4 then (ns.length : Int) else 4) > 1 then (if (ns.length : Int) < 4 then (ns.length : Int) else 4) else 1) = (cnt : Int) ∧ cnt ≤ 4 := by
    refine ⟨(if (if (ns.length : Int) < 4 then (ns.length : Int) else 4) > 1 then (if (ns.length : Int) < 4 then (ns.length : Int) else 4) else 1).toNat, ?_, ?_⟩
    · split <;> split <;> omega
    · split <;> split <;> omega
  rw [hcnt]
  dsimp only [ini, nones, fnD, dSeq, dNext, dAsg, dAug, dDrop, dRet, dRetN, dIfS, dCB, dBM, dBM0, dCall, dMeth, dMake, dCons, dNil, dVar, slot, dC, dUn, dOp, dTest, dChain, dAnd, dOr, dNot, dAndV, dOrV, dNotV, dIf, dTup, dLst, dLstM, dPar, dDicNew, dSl, dSlM, dNoPart, dPart, dFld, dFldS, gName', gSub', gTup', gNames, tyD, List.map_cons, List.map_nil, List.replicate, List.cons_append, List.nil_append, List.length_cons, List.length_nil, List.set, e_add_int, e_add_str, e_add_tup, e_add_lst, e_iadd_int, e_iadd_str, e_sub, e_neg, e_mod, e_div, e_pow, e_mul_int, e_mul_str, e_mul_lst, e_mul_tup, e_lt_int, e_le_int, e_gt_int, e_ge_int, e_lt_str, e_eq_int, e_eq_str, e_ne_int, e_ne_str, e_in, e_notin, e_ix_str, e_ix_tup, e_ix_lst, e_ix_scr, e_sl_str, e_sl_tup, e_sl_lst, e_int_bl, e_int_int, e_max2, e_min2, oIs, oIsNot, true_and, and_true, Nat.zero_add, ↓reduceIte, Option.some.injEq, List.cons.injEq, D.str.injEq, D.int.injEq, D.bl.injEq, D.ref.injEq, exists_eq_left', exists_and_left, exists_eq_left]
  refine ⟨by omega, ?_⟩
  have hlen : (numsFrom 0 (cnt : Int).toNat).length = cnt := by rw [numsFrom_len, Int.toNat_natCast]
  refine for_inv (fun i σ G' => ∃ a1 a2 a3 a4, σ = [some (.scr ns), a1, a2, a3, a4]) (i := 0) ⟨_, _, _, _, rfl⟩ ?_ ?_
  · rintro j x σ G' hx ⟨a1, a2, a3, a4, rfl⟩ N hN
    have hj : j < cnt := by rw [← hlen]; exact (List.getElem?_eq_some_iff.mp hx).1
    rw [numsFrom_get (by omega)] at hx
    cases hx
    dsimp only [dFor, dRng1, ini, nones, fnD, dSeq, dNext, dAsg, dAug, dDrop, dRet, dRetN, dIfS, dCB, dBM, dBM0, dCall, dMeth, dMake, dCons, dNil, dVar, slot, dC, dUn, dOp, dTest, dChain, dAnd, dOr, dNot, dAndV, dOrV, dNotV, dIf, dTup, dLst, dLstM, dPar, dDicNew, dSl, dSlM, dNoPart, dPart, dFld, dFldS, gName', gSub', gTup', gNames, tyD, List.map_cons, List.map_nil, List.replicate, List.cons_append, List.nil_append, List.length_cons, List.length_nil, List.set, e_add_int, e_add_str, e_add_tup, e_add_lst, e_iadd_int, e_iadd_str, e_sub, e_neg, e_mod, e_div, e_pow, e_mul_int, e_mul_str, e_mul_lst, e_mul_tup, e_lt_int, e_le_int, e_gt_int, e_ge_int, e_lt_str, e_eq_int, e_eq_str, e_ne_int, e_ne_str, e_in, e_notin, e_ix_str, e_ix_tup, e_ix_lst, e_ix_scr, e_sl_str, e_sl_tup, e_sl_lst, e_int_bl, e_int_int, e_max2, e_min2, oIs, oIsNot, true_and, and_true, Nat.zero_add, ↓reduceIte, Option.some.injEq, List.cons.injEq, D.str.injEq, D.int.injEq, D.bl.injEq, D.ref.injEq, exists_eq_left', exists_and_left, exists_eq_left]
    rw [Int.zero_add]
    refine law_pot_ok (by omega) hl fun p G1 hp pot b1 => ?_
    refine ⟨by decide, ?_⟩
    have hlen3 : (numsFrom 0 (3 : Int).toNat).length = 3 := by rw [numsFrom_len]; rfl
    refine for_inv (fun i σ G' => (∃ a3 a4, σ = [some (.scr ns), some (.int j), some (.ref p), a3, a4]) ∧ PotAt G' p (200 * i)) (i := 0) ⟨⟨_, _, rfl⟩, pot⟩ ?_ ?_
    · rintro i x σ G2 hx ⟨⟨a3, a4, rfl⟩, pt⟩ N' hN'
      have hi : i < 3 := by rw [← hlen3]; exact (List.getElem?_eq_some_iff.mp hx).1
      rw [numsFrom_get (by rw [numsFrom_len] at hlen3; omega)] at hx
      cases hx
      dsimp only [ini, nones, fnD, dSeq, dNext, dAsg, dAug, dDrop, dRet, dRetN, dIfS, dCB, dBM, dBM0, dCall, dMeth, dMake, dCons, dNil, dVar, slot, dC, dUn, dOp, dTest, dChain, dAnd, dOr, dNot, dAndV, dOrV, dNotV, dIf, dTup, dLst, dLstM, dPar, dDicNew, dSl, dSlM, dNoPart, dPart, dFld, dFldS, gName', gSub', gTup', gNames, tyD, List.map_cons, List.map_nil, List.replicate, List.cons_append, List.nil_append, List.length_cons, List.length_nil, List.set, e_add_int, e_add_str, e_add_tup, e_add_lst, e_iadd_int, e_iadd_str, e_sub, e_neg, e_mod, e_div, e_pow, e_mul_int, e_mul_str, e_mul_lst, e_mul_tup, e_lt_int, e_le_int, e_gt_int, e_ge_int, e_lt_str, e_eq_int, e_eq_str, e_ne_int, e_ne_str, e_in, e_notin, e_ix_str, e_ix_tup, e_ix_lst, e_ix_scr, e_sl_str, e_sl_tup, e_sl_lst, e_int_bl, e_int_int, e_max2, e_min2, oIs, oIsNot, true_and, and_true, Nat.zero_add, ↓reduceIte, Option.some.injEq, List.cons.injEq, D.str.injEq, D.int.injEq, D.bl.injEq, D.ref.injEq, exists_eq_left', exists_and_left, exists_eq_left]
      refine law_loop_ok pt (by omega) fun l G3 hlo p3 b3 => ?_
      refine law_known_ok p3 (by omega) hlo fun ws G4 hkn hsh hfe p4 e4 => ?_
      obtain ⟨d, n, c⟩ := case_ex hlo hkn hsh (by omega)
      refine law_right_ok c fun G5 g5 => ?_
      refine hN' _ G5 G5 Le.refl ⟨⟨_, _, rfl⟩, ?_⟩
      obtain ⟨a, b, cc, z1, z2⟩ := p4.ex
      exact PotAt.mono ⟨a, b, cc, g5 _ _ z1, z2⟩ (by omega)
    · rintro σ G2 ⟨⟨a3, a4, rfl⟩, pt⟩
      exact hN _ G2 G2 Le.refl ⟨_, _, _, _, rfl⟩
  · rintro σ G' ⟨a1, a2, a3, a4, rfl⟩
    dsimp only [ini, nones, fnD, dSeq, dNext, dAsg, dAug, dDrop, dRet, dRetN, dIfS, dCB, dBM, dBM0, dCall, dMeth, dMake, dCons, dNil, dVar, slot, dC, dUn, dOp, dTest, dChain, dAnd, dOr, dNot, dAndV, dOrV, dNotV, dIf, dTup, dLst, dLstM, dPar, dDicNew, dSl, dSlM, dNoPart, dPart, dFld, dFldS, gName', gSub', gTup', gNames, tyD, List.map_cons, List.map_nil, List.replicate, List.cons_append, List.nil_append, List.length_cons, List.length_nil, List.set, e_add_int, e_add_str, e_add_tup, e_add_lst, e_iadd_int, e_iadd_str, e_sub, e_neg, e_mod, e_div, e_pow, e_mul_int, e_mul_str, e_mul_lst, e_mul_tup, e_lt_int, e_le_int, e_gt_int, e_ge_int, e_lt_str, e_eq_int, e_eq_str, e_ne_int, e_ne_str, e_in, e_notin, e_ix_str, e_ix_tup, e_ix_lst, e_ix_scr, e_sl_str, e_sl_tup, e_sl_lst, e_int_bl, e_int_int, e_max2, e_min2, oIs, oIsNot, true_and, and_true, Nat.zero_add, ↓reduceIte, Option.some.injEq, List.cons.injEq, D.str.injEq, D.int.injEq, D.bl.injEq, D.ref.injEq, exists_eq_left', exists_and_left, exists_eq_left]
    refine ⟨⟨by decide, by decide, by decide⟩, by decide, by decide, ?_⟩
    obtain ⟨d, n, c⟩ := case_ex (l := rep (11 : Int).toNat [97] ++ [98]) (ws := []) ⟨rfl, by decide, by decide⟩ known_nil (fun _ h => absurd h List.not_mem_nil) (by decide)
    refine law_right_ok (ws := []) c fun G1 g1 => ?_
    refine ⟨by decide, ?_⟩
    obtain ⟨d2, n2, c2⟩ := case_ex (l := [97, 98, 97, 98, 97, 98, 97, 98, 97, 98, 97, 99]) (ws := [[98]]) ⟨rfl, by decide, by decide⟩ known_b (fun w h => by rw [List.mem_singleton.mp h]; decide) (by decide)
    exact law_right_ok (ws := [[98]]) c2 fun G2 g2 => rfl
end Wk
theorem PySem.Challenge.cw_looplearn_k44_loops_till_grown_holds : PySem.Challenge.rw_looplearn_k44_loops_till_grown.Holds := by
  exact Wk.ends fun K ns hl _ => Wk.law_ok K ns hl
