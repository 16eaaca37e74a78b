import PyProof.Rows.All
import Wide.All
import OpenK.AllK
import Wide.FinOn
import HandS.ForMost
import HandS.Exc
import HandS.ExcOwn
import HandS.TryOnly
import HandS.TryMany
import HandS.WordsExc
import HandS.Defaults
import HandS.HeadHook2
import HandS.TupAny
import HandS.NoneIn
import HandS.Wide
import HandS.WideBits
import HandS.FStr
import HandS.TupMul
import HandS.IsInst
import HandS.Head2
import HandS.HeadEnd
import HandS.Text
import HandS.StrMore
import PySem.Challenge.RW_anyurn_k10_texts_refused
set_option Elab.async false
set_option linter.all false
set_option maxRecDepth 100000
set_option maxHeartbeats 4000000
/-! AuBase: data without a heap (D), how the abstract heap bears it (Rep), what a step may do (Step), readings over data (DT, DS), their lifting to HandS's readings. -/
namespace AU
open PySem L2 PySem.Spec PyProof.Rows

/-- a value as data: tuples, lists and dicts with all that is in them; a chance; the law's draws; the script -/
inductive D where
  | non
  | bl (b : Bool)
  | int (i : Int)
  | str (x : Str)
  | tup (ds : List D)
  | lst (ds : List D)
  | dS (kvs : List (Str × D))
  | dT (kvs : List (List Int × D))
  | ch (tp : List (List Int × Int)) (bt : List Int)
  | drw
  | scr (ns : List Int)

/-- the frozen part G of the heap H; the draws that stand at M -/
structure Gh where
  G : Hp
  M : List Addr
  H : Hp

def chF (t b : Addr) : List (Str × V) := putF "bottom" (.ref b) (putF "top" (.ref t) [])
def kI (ks : List Int) : List Key := ks.map Sum.inl

mutual
inductive Rep (K : PySem.W.Frag) (g : Gh) : V → D → Prop
  | non : Rep K g .non .non
  | bl (b : Bool) : Rep K g (.bl b) (.bl b)
  | int (i : Int) : Rep K g (.int i) (.int i)
  | str (x : Str) : Rep K g (.str x) (.str x)
  | tup {a : Addr} {vs : List V} {ds : List D} : SqT K g.G a vs → Reps K g vs ds → Rep K g (.ref a) (.tup ds)
  | lst {a : Addr} {vs : List V} {ds : List D} : g.G a = some (.lst vs) → Reps K g vs ds → Rep K g (.ref a) (.lst ds)
  | dS {a : Addr} {kvs : List (Key × V)} {ds : List (Str × D)} : g.G a = some (.dK kvs) → RepK K g kvs ds → Rep K g (.ref a) (.dS ds)
  | dT {a : Addr} {kvs : List (List Key × V)} {ds : List (List Int × D)} : g.G a = some (.dT kvs) → RepT K g kvs ds → Rep K g (.ref a) (.dT ds)
  | ch {a dx t b : Addr} {tp : List (List Int × Int)} {bt : List Int} : g.G a = some (.ins (He.ga K "Chance") dx (chF t b)) →
      g.G t = some (.dT (tp.map fun q => (kI q.1, V.int q.2))) → SqT K g.G b (bt.map V.int) → Rep K g (.ref a) (.ch tp bt)
  | drw {a : Addr} : a ∈ g.M → Rep K g (.ref a) .drw
  | scr {a : Addr} {ns : List Int} : SqL K g.G a (ns.map V.int) → ns.length ≤ 63 → Rep K g (.ref a) (.scr ns)
inductive Reps (K : PySem.W.Frag) (g : Gh) : List V → List D → Prop
  | nil : Reps K g [] []
  | cons {v : V} {vs : List V} {d : D} {ds : List D} : Rep K g v d → Reps K g vs ds → Reps K g (v :: vs) (d :: ds)
inductive RepK (K : PySem.W.Frag) (g : Gh) : List (Key × V) → List (Str × D) → Prop
  | nil : RepK K g [] []
  | cons {k : Str} {v : V} {vs : List (Key × V)} {d : D} {ds : List (Str × D)} : Rep K g v d → RepK K g vs ds → RepK K g ((Sum.inr k, v) :: vs) ((k, d) :: ds)
inductive RepT (K : PySem.W.Frag) (g : Gh) : List (List Key × V) → List (List Int × D) → Prop
  | nil : RepT K g [] []
  | cons {k : List Int} {v : V} {vs : List (List Key × V)} {d : D} {ds : List (List Int × D)} : Rep K g v d → RepT K g vs ds → RepT K g ((kI k, v) :: vs) ((k, d) :: ds)
end

/-- a dict -/
def isD : HO → Prop
  | .dK _ => True
  | .dT _ => True
  | _ => False
def isTp : HO → Prop
  | .tup _ => True
  | _ => False
/-- the law's draws at a -/
def DrawsAt (g : Gh) (a : Addr) : Prop := ∃ (l : Addr) (ns : List Int) (i c st : Int), g.H a = some (.lst [.ref l, .int i, .int c, .int st]) ∧ g.G l = some (.lst (ns.map V.int)) ∧ ns.length ≤ 63 ∧ 0 ≤ i ∧ 0 ≤ c
structure Hold (g : Gh) : Prop where
  le : ∀ a o, g.G a = some o → g.H a = some o ∨ (isD o ∧ ∃ ob, g.H a = some (.frz ob o))
  dis : ∀ a ∈ g.M, g.G a = none
  mok : ∀ a ∈ g.M, DrawsAt g a
/-- what code may do: freeze what is new (or a tuple), turn the draws -/
structure Step (g g' : Gh) : Prop where
  gs : ∀ a o, g.G a = some o → g'.G a = some o
  gn : ∀ a o, g'.G a = some o → g.G a = some o ∨ g.H a = none ∨ isTp o
  ms : ∀ a ∈ g.M, a ∈ g'.M
  mn : ∀ a ∈ g'.M, a ∈ g.M ∨ g.H a = none
  hs : ∀ a o, g.H a = some o → a ∉ g.M → g'.H a = some o
  ok : Hold g'
theorem Step.refl {g : Gh} (h : Hold g) : Step g g := ⟨fun _ _ e => e, fun _ _ e => .inl e, fun _ e => e, fun _ e => .inl e, fun _ _ e _ => e, h⟩
/-- what is not tracked later was not tracked before -/
theorem Step.none {g g' : Gh} (s : Step g g') {a : Addr} (e : g'.H a = none) : g.H a = none := by
  cases q : g.H a with
  | none => rfl
  | some o =>
    by_cases hm : a ∈ g.M
    · obtain ⟨l, ns, i, c, st, h1, _⟩ := s.ok.mok a (s.ms a hm)
      rw [e] at h1
      cases h1
    · rw [s.hs a o q hm] at e
      cases e
theorem Step.trans {g g1 g2 : Gh} (a : Step g g1) (b : Step g1 g2) : Step g g2 where
  gs := fun x o e => b.gs x o (a.gs x o e)
  gn := fun x o e => by
    rcases b.gn x o e with h | h | h
    · exact a.gn x o h
    · exact .inr (.inl (a.none h))
    · exact .inr (.inr h)
  ms := fun x h => b.ms x (a.ms x h)
  mn := fun x h => by
    rcases b.mn x h with h | h
    · exact a.mn x h
    · exact .inr (a.none h)
  hs := fun x o e h => by
    refine b.hs x o (a.hs x o e h) fun hm => ?_
    rcases a.mn x hm with q | q
    · exact h q
    · rw [e] at q; cases q
  ok := b.ok

/-! ### what is borne stays -/
section
variable {K : PySem.W.Frag} {g g' : Gh}
theorem SqT.up {H H' : Hp} {a : Addr} {xs : List V} (h : SqT K H a xs) (e : ∀ b o, H b = some o → H' b = some o) : SqT K H' a xs :=
  h.elim (fun h => .inl (h.elim (fun h => .inl (e _ _ h)) fun ⟨o, h⟩ => .inr ⟨o, e _ _ h⟩)) fun h => .inr h
theorem SqL.up {H H' : Hp} {a : Addr} {xs : List V} (h : SqL K H a xs) (e : ∀ b o, H b = some o → H' b = some o) : SqL K H' a xs :=
  h.elim (fun h => .inl (h.elim (fun h => .inl (e _ _ h)) fun ⟨o, h⟩ => .inr ⟨o, e _ _ h⟩)) fun h => .inr h
mutual
theorem Rep.up (hg : ∀ b o, g.G b = some o → g'.G b = some o) (hm : ∀ b ∈ g.M, b ∈ g'.M) : ∀ {v : V} {d : D}, Rep K g v d → Rep K g' v d
  | _, _, .non => .non
  | _, _, .bl b => .bl b
  | _, _, .int i => .int i
  | _, _, .str x => .str x
  | _, _, .tup h r => .tup (SqT.up h hg) (Reps.up hg hm r)
  | _, _, .lst h r => .lst (hg _ _ h) (Reps.up hg hm r)
  | _, _, .dS h r => .dS (hg _ _ h) (RepK.up hg hm r)
  | _, _, .dT h r => .dT (hg _ _ h) (RepT.up hg hm r)
  | _, _, .ch h1 h2 h3 => .ch (hg _ _ h1) (hg _ _ h2) (SqT.up h3 hg)
  | _, _, .drw h => .drw (hm _ h)
  | _, _, .scr h l => .scr (SqL.up h hg) l
theorem Reps.up (hg : ∀ b o, g.G b = some o → g'.G b = some o) (hm : ∀ b ∈ g.M, b ∈ g'.M) : ∀ {v : List V} {d : List D}, Reps K g v d → Reps K g' v d
  | _, _, .nil => .nil
  | _, _, .cons h r => .cons (Rep.up hg hm h) (Reps.up hg hm r)
theorem RepK.up (hg : ∀ b o, g.G b = some o → g'.G b = some o) (hm : ∀ b ∈ g.M, b ∈ g'.M) : ∀ {v : List (Key × V)} {d : List (Str × D)}, RepK K g v d → RepK K g' v d
  | _, _, .nil => .nil
  | _, _, .cons h r => .cons (Rep.up hg hm h) (RepK.up hg hm r)
theorem RepT.up (hg : ∀ b o, g.G b = some o → g'.G b = some o) (hm : ∀ b ∈ g.M, b ∈ g'.M) : ∀ {v : List (List Key × V)} {d : List (List Int × D)}, RepT K g v d → RepT K g' v d
  | _, _, .nil => .nil
  | _, _, .cons h r => .cons (Rep.up hg hm h) (RepT.up hg hm r)
end
theorem Rep.step {v : V} {d : D} (r : Rep K g v d) (s : Step g g') : Rep K g' v d := r.up s.gs s.ms
theorem Reps.step {v : List V} {d : List D} (r : Reps K g v d) (s : Step g g') : Reps K g' v d := r.up s.gs s.ms
theorem RepK.step {v : List (Key × V)} {d : List (Str × D)} (r : RepK K g v d) (s : Step g g') : RepK K g' v d := r.up s.gs s.ms
theorem RepT.step {v : List (List Key × V)} {d : List (List Int × D)} (r : RepT K g v d) (s : Step g g') : RepT K g' v d := r.up s.gs s.ms
theorem Reps.length : ∀ {vs : List V} {ds : List D}, Reps K g vs ds → vs.length = ds.length
  | _, _, .nil => rfl
  | _, _, .cons _ r => by rw [List.length_cons, List.length_cons, r.length]
theorem RepK.length : ∀ {vs : List (Key × V)} {ds : List (Str × D)}, RepK K g vs ds → vs.length = ds.length
  | _, _, .nil => rfl
  | _, _, .cons _ r => by rw [List.length_cons, List.length_cons, r.length]
theorem RepT.length : ∀ {vs : List (List Key × V)} {ds : List (List Int × D)}, RepT K g vs ds → vs.length = ds.length
  | _, _, .nil => rfl
  | _, _, .cons _ r => by rw [List.length_cons, List.length_cons, r.length]
theorem Reps.get : ∀ {vs : List V} {ds : List D} {i : Nat} {d : D}, Reps K g vs ds → ds[i]? = some d → ∃ v, vs[i]? = some v ∧ Rep K g v d
  | _, _, _, _, .nil, e => by simp at e
  | _, _, 0, _, .cons h _, e => by simp at e; subst e; exact ⟨_, rfl, h⟩
  | _, _, i + 1, d, .cons _ r, e => by
    obtain ⟨v, h1, h2⟩ := Reps.get (i := i) (d := d) r (by simpa using e)
    exact ⟨v, by simpa using h1, h2⟩
theorem Reps.got : ∀ {vs : List V} {ds : List D} {i : Nat} {v : V}, Reps K g vs ds → vs[i]? = some v → ∃ d, ds[i]? = some d ∧ Rep K g v d
  | _, _, _, _, .nil, e => by simp at e
  | _, _, 0, _, .cons h _, e => by simp at e; subst e; exact ⟨_, rfl, h⟩
  | _, _, i + 1, v, .cons _ r, e => by
    obtain ⟨d, h1, h2⟩ := Reps.got (i := i) (v := v) r (by simpa using e)
    exact ⟨d, by simpa using h1, h2⟩
theorem Reps.append : ∀ {vs ws : List V} {ds es : List D}, Reps K g vs ds → Reps K g ws es → Reps K g (vs ++ ws) (ds ++ es)
  | _, _, _, _, .nil, s => s
  | _, _, _, _, .cons h r, s => .cons h (Reps.append r s)
theorem Reps.take : ∀ {vs : List V} {ds : List D} (n : Nat), Reps K g vs ds → Reps K g (vs.take n) (ds.take n)
  | _, _, 0, _ => .nil
  | _, _, _ + 1, .nil => .nil
  | _, _, n + 1, .cons h r => .cons h (Reps.take n r)
theorem Reps.drop : ∀ {vs : List V} {ds : List D} (n : Nat), Reps K g vs ds → Reps K g (vs.drop n) (ds.drop n)
  | _, _, 0, r => r
  | _, _, _ + 1, .nil => .nil
  | _, _, n + 1, .cons _ r => Reps.drop n r
theorem reps_ints : ∀ (ns : List Int), Reps K g (ns.map V.int) (ns.map D.int)
  | [] => .nil
  | n :: r => .cons (.int n) (reps_ints r)
theorem reps_strs : ∀ (ns : List Str), Reps K g (ns.map V.str) (ns.map D.str)
  | [] => .nil
  | n :: r => .cons (.str n) (reps_strs r)
theorem ints_of_reps : ∀ {vs : List V} {ns : List Int}, Reps K g vs (ns.map D.int) → vs = ns.map V.int
  | _, [], .nil => rfl
  | _, n :: r, .cons h t => by
    cases h
    rw [List.map_cons, ints_of_reps t]
theorem strs_of_reps : ∀ {vs : List V} {ns : List Str}, Reps K g vs (ns.map D.str) → vs = ns.map V.str
  | _, [], .nil => rfl
  | _, n :: r, .cons h t => by
    cases h
    rw [List.map_cons, strs_of_reps t]
theorem bls_of_reps : ∀ {vs : List V} {ns : List Bool}, Reps K g vs (ns.map D.bl) → vs = ns.map V.bl
  | _, [], .nil => rfl
  | _, n :: r, .cons h t => by
    cases h
    rw [List.map_cons, bls_of_reps t]

/-! ### a new frozen thing; what is read off the heap -/
theorem Hold.sqT (h : Hold g) {a : Addr} {xs : List V} (s : SqT K g.G a xs) : SqT K g.H a xs := by
  rcases s with (s | ⟨o, s⟩) | s
  · rcases h.le _ _ s with q | ⟨q, _⟩
    · exact .inl (.inl q)
    · exact q.elim
  · rcases h.le _ _ s with q | ⟨q, _⟩
    · exact .inl (.inr ⟨o, q⟩)
    · exact q.elim
  · exact .inr s
theorem Hold.sqL (h : Hold g) {a : Addr} {xs : List V} (s : SqL K g.G a xs) : SqL K g.H a xs := by
  rcases s with (s | ⟨o, s⟩) | s
  · rcases h.le _ _ s with q | ⟨q, _⟩
    · exact .inl (.inl q)
    · exact q.elim
  · rcases h.le _ _ s with q | ⟨q, _⟩
    · exact .inl (.inr ⟨o, q⟩)
    · exact q.elim
  · exact .inr s
theorem Hold.lst (h : Hold g) {a : Addr} {xs : List V} (s : g.G a = some (.lst xs)) : g.H a = some (.lst xs) := by
  rcases h.le _ _ s with q | ⟨q, _⟩
  · exact q
  · exact q.elim
theorem Hold.ins (h : Hold g) {a C dx : Addr} {fs : List (Str × V)} (s : g.G a = some (.ins C dx fs)) : g.H a = some (.ins C dx fs) := by
  rcases h.le _ _ s with q | ⟨q, _⟩
  · exact q
  · exact q.elim
theorem Hold.free (h : Hold g) {a : Addr} (e : g.H a = none) : g.G a = none := by
  cases q : g.G a with
  | none => rfl
  | some o =>
    rcases h.le _ _ q with z | ⟨_, _, z⟩ <;> · rw [e] at z; cases z
theorem Hold.notM (h : Hold g) {a : Addr} (e : g.H a = none) : a ∉ g.M := fun hm => by
  obtain ⟨l, ns, i, c, st, h1, _⟩ := h.mok a hm
  rw [e] at h1; cases h1
/-- the ghost state behind a new frozen o at p -/
abbrev Gh.new (g : Gh) (p : Addr) (o : HO) : Gh := ⟨upd g.G p o, g.M, upd g.H p o⟩
/-- behind a new o at p, not frozen -/
abbrev Gh.own (g : Gh) (p : Addr) (o : HO) : Gh := ⟨g.G, g.M, upd g.H p o⟩
theorem Hold.newOk (h : Hold g) {p : Addr} (o : HO) (e : g.H p = none) : Hold (g.new p o) where
  le := fun a u q => by
    have q' : upd g.G p o a = some u := q
    by_cases hb : a = p
    · subst hb; rw [upd_same] at q'; cases q'; exact .inl upd_same
    · rw [upd_ne hb] at q'
      show upd g.H p o a = some u ∨ _
      rcases h.le a u q' with z | ⟨z, ob, y⟩
      · left; rw [upd_ne hb]; exact z
      · right; refine ⟨z, ob, ?_⟩
        show upd g.H p o a = _
        rw [upd_ne hb]; exact y
  dis := fun a hm => by
    show upd g.G p o a = none
    have : a ≠ p := fun q => h.notM e (q ▸ hm)
    rw [upd_ne this]; exact h.dis a hm
  mok := fun a hm => by
    obtain ⟨l, ns, i, c, st, h1, h2, h3⟩ := h.mok a hm
    have n1 : a ≠ p := fun q => h.notM e (q ▸ hm)
    have n2 : l ≠ p := fun q => by rw [q, h.free e] at h2; cases h2
    refine ⟨l, ns, i, c, st, ?_, ?_, h3⟩
    · show upd g.H p o a = _
      rw [upd_ne n1]; exact h1
    · show upd g.G p o l = _
      rw [upd_ne n2]; exact h2
theorem Hold.new (h : Hold g) {p : Addr} (o : HO) (e : g.H p = none) : Step g (g.new p o) where
  gs := fun a u q => by
    show upd g.G p o a = some u
    rw [upd_ne (ne_of_none q (h.free e))]; exact q
  gn := fun a u q => by
    have q' : upd g.G p o a = some u := q
    by_cases hb : a = p
    · right; left; rw [hb]; exact e
    · rw [upd_ne hb] at q'; exact .inl q'
  ms := fun _ h => h
  mn := fun _ h => .inl h
  hs := fun a u q _ => by
    show upd g.H p o a = some u
    rw [upd_ne (ne_of_none q e)]; exact q
  ok := h.newOk o e
theorem Hold.ownOk (h : Hold g) {p : Addr} (o : HO) (e : g.H p = none) : Hold (g.own p o) where
  le := fun a u q => by
    have hb : a ≠ p := ne_of_none q (h.free e)
    rcases h.le a u q with z | ⟨z, ob, y⟩
    · left; show upd g.H p o a = _; rw [upd_ne hb]; exact z
    · right; refine ⟨z, ob, ?_⟩; show upd g.H p o a = _; rw [upd_ne hb]; exact y
  dis := h.dis
  mok := fun a hm => by
    obtain ⟨l, ns, i, c, st, h1, h2, h3⟩ := h.mok a hm
    have n1 : a ≠ p := fun q => h.notM e (q ▸ hm)
    refine ⟨l, ns, i, c, st, ?_, h2, h3⟩
    show upd g.H p o a = _
    rw [upd_ne n1]; exact h1
theorem Hold.own (h : Hold g) {p : Addr} (o : HO) (e : g.H p = none) : Step g (g.own p o) where
  gs := fun a u q => q
  gn := fun a u q => .inl q
  ms := fun _ h => h
  mn := fun _ h => .inl h
  hs := fun a u q _ => by
    show upd g.H p o a = some u
    rw [upd_ne (ne_of_none q e)]; exact q
  ok := h.ownOk o e
end

/-! ### a def's names: not set, frozen data, data of one's own (a list or dict that no one else knows) -/
inductive Cell where
  | un | fz (d : D) | ow (d : D)
abbrev Rho := List Cell
/-- p holds d, and is no one else's; g0: at the def's entry -/
def OwnH (K : PySem.W.Frag) (g : Gh) (p : Addr) : D → Prop
  | .lst ds => ∃ vs, g.H p = some (.lst vs) ∧ Reps K g vs ds
  | .dS ds => ∃ kvs, g.H p = some (.dK kvs) ∧ RepK K g kvs ds
  | .dT ds => ∃ kvs, g.H p = some (.dT kvs) ∧ RepT K g kvs ds
  | _ => False
structure Own (K : PySem.W.Frag) (g0 g : Gh) (p : Addr) (d : D) : Prop where
  n0 : g0.H p = none
  ng : g.G p = none
  nm : p ∉ g.M
  at_ : OwnH K g p d
structure EnvOk (K : PySem.W.Frag) (g0 g : Gh) (ρ : Rho) (σ : L2.St) : Prop where
  len : ρ.length = σ.length
  fz : ∀ (i : Nat) (d : D), ρ[i]? = some (.fz d) → ∃ v, σ[i]? = some (some v) ∧ Rep K g v d
  ow : ∀ (i : Nat) (d : D), ρ[i]? = some (.ow d) → ∃ p, σ[i]? = some (some (.ref p)) ∧ Own K g0 g p d
  ap : ∀ (i j : Nat) (d e : D) (p : Addr), i ≠ j → ρ[i]? = some (.ow d) → ρ[j]? = some (.ow e) → σ[i]? = some (some (.ref p)) → σ[j]? = some (some (.ref p)) → False
section
variable {K : PySem.W.Frag} {g0 g g' : Gh}
theorem OwnH.some {p : Addr} {d : D} (h : OwnH K g p d) : ∃ o, g.H p = some o ∧ ¬ isTp o := by
  cases d with
  | lst ds => obtain ⟨vs, e, _⟩ := h; exact ⟨_, e, fun z => z⟩
  | dS ds => obtain ⟨vs, e, _⟩ := h; exact ⟨_, e, fun z => z⟩
  | dT ds => obtain ⟨vs, e, _⟩ := h; exact ⟨_, e, fun z => z⟩
  | _ => exact h.elim
theorem Own.step {p : Addr} {d : D} (o : Own K g0 g p d) (s : Step g g') : Own K g0 g' p d := by
  obtain ⟨u, hu, nt⟩ := OwnH.some o.at_
  have hk : g'.H p = some u := s.hs p u hu o.nm
  refine ⟨o.n0, ?_, fun hm => ?_, ?_⟩
  · cases q : g'.G p with
    | none => rfl
    | some z =>
      rcases s.gn p z q with h | h | h
      · rw [o.ng] at h; cases h
      · rw [hu] at h; cases h
      · rcases s.ok.le p z q with y | ⟨y, ob, _⟩
        · rw [hk] at y; cases y; exact (nt h).elim
        · cases z <;> first | exact y.elim | exact h.elim
  · rcases s.mn p hm with h | h
    · exact o.nm h
    · rw [hu] at h; cases h
  · have at_ := o.at_
    cases d with
    | lst ds => obtain ⟨vs, e, r⟩ := at_; exact ⟨vs, s.hs _ _ e o.nm, r.step s⟩
    | dS ds => obtain ⟨vs, e, r⟩ := at_; exact ⟨vs, s.hs _ _ e o.nm, r.step s⟩
    | dT ds => obtain ⟨vs, e, r⟩ := at_; exact ⟨vs, s.hs _ _ e o.nm, r.step s⟩
    | _ => exact at_.elim
theorem EnvOk.step {ρ : Rho} {σ : L2.St} (e : EnvOk K g0 g ρ σ) (s : Step g g') : EnvOk K g0 g' ρ σ :=
  ⟨e.len, fun i d h => let ⟨v, h1, h2⟩ := e.fz i d h; ⟨v, h1, h2.step s⟩, fun i d h => let ⟨p, h1, h2⟩ := e.ow i d h; ⟨p, h1, h2.step s⟩, e.ap⟩
/-- a name gets frozen data -/
theorem EnvOk.set {ρ : Rho} {σ : L2.St} (e : EnvOk K g0 g ρ σ) {v : V} {d : D} (r : Rep K g v d) (i : Nat) : EnvOk K g0 g (ρ.set i (.fz d)) (σ.set i (some v)) := by
  have hl : ∀ j : Nat, j < ρ.length ↔ j < σ.length := fun j => by rw [e.len]
  refine ⟨by rw [List.length_set, List.length_set, e.len], fun j x h => ?_, fun j x h => ?_, fun j k x y p hjk h1 h2 h3 h4 => ?_⟩
  · by_cases hj : i = j
    · subst hj
      by_cases hb : i < ρ.length
      · rw [List.getElem?_set_self hb] at h
        cases h
        exact ⟨v, by rw [List.getElem?_set_self ((hl i).mp hb)], r⟩
      · rw [List.getElem?_eq_none (by simpa using hb)] at h; cases h
    · rw [List.getElem?_set_ne hj] at h
      obtain ⟨w, h1, h2⟩ := e.fz j x h
      exact ⟨w, by rw [List.getElem?_set_ne hj]; exact h1, h2⟩
  · by_cases hj : i = j
    · subst hj
      by_cases hb : i < ρ.length
      · rw [List.getElem?_set_self hb] at h; cases h
      · rw [List.getElem?_eq_none (by simpa using hb)] at h; cases h
    · rw [List.getElem?_set_ne hj] at h
      obtain ⟨w, h1, h2⟩ := e.ow j x h
      exact ⟨w, by rw [List.getElem?_set_ne hj]; exact h1, h2⟩
  · have ne : ∀ (j : Nat) (x : D), (ρ.set i (.fz d))[j]? = some (.ow x) → i ≠ j := fun j x h hj => by
      subst hj
      by_cases hb : i < ρ.length
      · rw [List.getElem?_set_self hb] at h; cases h
      · rw [List.getElem?_eq_none (by simpa using hb)] at h; cases h
    have nj := ne j x h1
    have nk := ne k y h2
    rw [List.getElem?_set_ne nj] at h1 h3
    rw [List.getElem?_set_ne nk] at h2 h4
    exact e.ap j k x y p hjk h1 h2 h3 h4
/-- a name gets data of its own -/
theorem EnvOk.setOwn {ρ : Rho} {σ : L2.St} (e : EnvOk K g0 g ρ σ) {p : Addr} {d : D} (r : Own K g0 g p d) (i : Nat) (ap : ∀ (j : Nat) (x : D), j ≠ i → ρ[j]? = some (.ow x) → σ[j]? ≠ some (some (.ref p))) : EnvOk K g0 g (ρ.set i (.ow d)) (σ.set i (some (.ref p))) := by
  have hl : ∀ j : Nat, j < ρ.length ↔ j < σ.length := fun j => by rw [e.len]
  refine ⟨by rw [List.length_set, List.length_set, e.len], fun j x h => ?_, fun j x h => ?_, fun j k x y q hjk h1 h2 h3 h4 => ?_⟩
  · by_cases hj : i = j
    · subst hj
      by_cases hb : i < ρ.length
      · rw [List.getElem?_set_self hb] at h; cases h
      · rw [List.getElem?_eq_none (by simpa using hb)] at h; cases h
    · rw [List.getElem?_set_ne hj] at h
      obtain ⟨w, h1, h2⟩ := e.fz j x h
      exact ⟨w, by rw [List.getElem?_set_ne hj]; exact h1, h2⟩
  · by_cases hj : i = j
    · subst hj
      by_cases hb : i < ρ.length
      · rw [List.getElem?_set_self hb] at h
        cases h
        exact ⟨p, by rw [List.getElem?_set_self ((hl i).mp hb)], r⟩
      · rw [List.getElem?_eq_none (by simpa using hb)] at h; cases h
    · rw [List.getElem?_set_ne hj] at h
      obtain ⟨w, h1, h2⟩ := e.ow j x h
      exact ⟨w, by rw [List.getElem?_set_ne hj]; exact h1, h2⟩
  · have self : ∀ (z : V), (σ.set i (some (.ref p)))[i]? = some (some z) → z = .ref p := fun z h => by
      by_cases hb : i < σ.length
      · rw [List.getElem?_set_self hb] at h; cases h; rfl
      · rw [List.getElem?_eq_none (by simpa using hb)] at h; cases h
    by_cases hj : j = i
    · subst hj
      have hk : j ≠ k := hjk
      have e1 := self _ h3
      cases e1
      rw [List.getElem?_set_ne hk] at h2 h4
      exact ap k y (Ne.symm hk) h2 h4
    · by_cases hk : k = i
      · subst hk
        have e1 := self _ h4
        cases e1
        rw [List.getElem?_set_ne (Ne.symm hj)] at h1 h3
        exact ap j x hj h1 h3
      · rw [List.getElem?_set_ne (Ne.symm hj)] at h1 h3
        rw [List.getElem?_set_ne (Ne.symm hk)] at h2 h4
        exact e.ap j k x y q hjk h1 h2 h3 h4
end
end AU

/-! AuRead: readings over data, and what lifts them. -/
namespace AU
open PySem L2 PySem.Spec PyProof.Rows

/-! ### expressions, tests -/
abbrev DT := Rho → (D → Prop) → (Str → Prop) → Prop
abbrev DB := Rho → (Bool → Prop) → (Str → Prop) → Prop
abbrev DA := Rho → (List D → Prop) → (Str → Prop) → Prop
/-- the exceptions' side of a wish -/
def XOk (K : PySem.W.Frag) (W : WX) (g : Gh) (σ : L2.St) (Ex : Str → Prop) : Prop := ∀ c, Ex c → ∀ g', Step g g' → W (.ref (He.ga K c)) none σ g'.H
def lift (K : PySem.W.Frag) (W : WX) (g0 : Gh) (t : DT) : TE := fun σ H Q => ∃ (g : Gh) (ρ : Rho) (P : D → Prop) (Ex : Str → Prop), g.H = H ∧ Step g0 g ∧ EnvOk K g0 g ρ σ ∧ t ρ P Ex ∧
  (∀ d, P d → ∀ v g', Step g g' → Rep K g' v d → Q v g'.H) ∧ XOk K W g σ Ex
def liftB (K : PySem.W.Frag) (W : WX) (g0 : Gh) (t : DB) : TT := fun σ H Q => ∃ (g : Gh) (ρ : Rho) (P : Bool → Prop) (Ex : Str → Prop), g.H = H ∧ Step g0 g ∧ EnvOk K g0 g ρ σ ∧ t ρ P Ex ∧
  (∀ d, P d → ∀ g', Step g g' → Q d g'.H) ∧ XOk K W g σ Ex
def liftA (K : PySem.W.Frag) (W : WX) (g0 : Gh) (t : DA) : TA := fun σ H Q => ∃ (g : Gh) (ρ : Rho) (P : List D → Prop) (Ex : Str → Prop), g.H = H ∧ Step g0 g ∧ EnvOk K g0 g ρ σ ∧ t ρ P Ex ∧
  (∀ d, P d → ∀ v g', Step g g' → Reps K g' v d → Q v g'.H) ∧ XOk K W g σ Ex
/-- .. of what is new and known to no one else -/
def liftF (K : PySem.W.Frag) (W : WX) (g0 : Gh) (t : DT) : TE := fun σ H Q => ∃ (g : Gh) (ρ : Rho) (P : D → Prop) (Ex : Str → Prop), g.H = H ∧ Step g0 g ∧ EnvOk K g0 g ρ σ ∧ t ρ P Ex ∧
  (∀ d, P d → ∀ p g', Step g g' → g.H p = none → Own K g0 g' p d → Q (.ref p) g'.H) ∧ XOk K W g σ Ex
abbrev DE (X : Cx) (W : WX) (g0 : Gh) (e : Expr) (t : DT) : Prop := PE X e (lift X.K W g0 t)
abbrev DF (X : Cx) (W : WX) (g0 : Gh) (e : Expr) (t : DT) : Prop := PE X e (liftF X.K W g0 t)
abbrev DTt (X : Cx) (W : WX) (g0 : Gh) (e : Expr) (t : DB) : Prop := PT X e (liftB X.K W g0 t)
abbrev DPA (X : Cx) (W : WX) (g0 : Gh) (es : List Expr) (t : DA) : Prop := PA X es (liftA X.K W g0 t)
theorem PE.imp {X : Cx} {e : Expr} {t t' : TE} (h : PE X e t) (i : ∀ σ H Q, t' σ H Q → t σ H Q) : PE X e t' := ⟨fun pins s σ H Q I w => h.run pins s σ H Q I (i _ _ _ w)⟩
theorem PT.imp {X : Cx} {e : Expr} {t t' : TT} (h : PT X e t) (i : ∀ σ H Q, t' σ H Q → t σ H Q) : PT X e t' := ⟨fun pins s σ H Q I w => h.run pins s σ H Q I (i _ _ _ w)⟩
theorem PA.imp {X : Cx} {e : List Expr} {t t' : TA} (h : PA X e t) (i : ∀ σ H Q, t' σ H Q → t σ H Q) : PA X e t' := ⟨fun pos pins s σ H Q I w => h.run pos pins s σ H Q I (i _ _ _ w)⟩
theorem PS.imp {X : Cx} {e : Stmt} {t t' : TS} (h : PS X e t) (i : ∀ D σ H, t' D σ H → t D σ H) : PS X e t' := ⟨fun pins s σ H D I w => h.run pins s σ H D I (i _ _ _ w)⟩
theorem PSs.imp {X : Cx} {e : List Stmt} {t t' : TS} (h : PSs X e t) (i : ∀ D σ H, t' D σ H → t D σ H) : PSs X e t' := ⟨fun pins s σ H D I w => h.run pins s σ H D I (i _ _ _ w)⟩
theorem PS.or {X : Cx} {e : Stmt} {t t' : TS} (h : PS X e t) (h' : PS X e t') : PS X e (fun D σ H => t D σ H ∨ t' D σ H) := ⟨fun pins s σ H D I w => w.elim (h.run pins s σ H D I) (h'.run pins s σ H D I)⟩
theorem PE.or {X : Cx} {e : Expr} {t t' : TE} (h : PE X e t) (h' : PE X e t') : PE X e (fun D σ H => t D σ H ∨ t' D σ H) := ⟨fun pins s σ H D I w => w.elim (h.run pins s σ H D I) (h'.run pins s σ H D I)⟩

@[simp] def dVar (i : Nat) : DT := fun ρ P _ => match ρ[i]? with
  | some (.fz d) => P d
  | _ => False
@[simp] def dC (d : D) : DT := fun _ P _ => P d
section
variable {X : Cx} {W : WX} {g0 g g1 : Gh} {K : PySem.W.Frag} {σ : L2.St} {Ex : Str → Prop}
theorem XOk.step (x : XOk K W g σ Ex) (s : Step g g1) : XOk K W g1 σ Ex := fun c h g' s' => x c h g' (s.trans s')
theorem XOk.none : XOk K W g σ (fun _ => False) := fun _ h => h.elim
theorem de_var (i : Nat) {x : Str} {pos : Pos} (hN : X.N[i]? = some x := by rfl) (hv : Vis X.env.scope x := by first | exact Or.inl rfl | exact Or.inr (Or.inl rfl) | exact Or.inr (Or.inr rfl)) (hd : (x == ("__debug__" : Str)) = false := by decide)
    (hcd : (x == ("__classdict__" : Str)) = false := by decide) : DE X W g0 (.Name x pos) (dVar i) := by
  refine PE.imp (pe_var hN hv hd hcd) fun σ H Q h => ?_
  obtain ⟨g, ρ, P, Ex, rfl, s0, e, t, q, x⟩ := h
  unfold dVar at t
  split at t
  · rename_i d hd
    obtain ⟨v, h1, h2⟩ := e.fz i d hd
    exact ⟨v, h1, q d t v g (Step.refl s0.ok) h2⟩
  · exact t.elim
theorem de_int {i j pos} : DE X W g0 (.Constant (.int i) j pos) (dC (.int i)) := PE.imp pe_int fun σ H Q ⟨g, ρ, P, Ex, e, s0, _, t, q, _⟩ => by
  subst e; exact q _ t _ g (Step.refl s0.ok) (.int i)
theorem de_bl {b j pos} : DE X W g0 (.Constant (.bool b) j pos) (dC (.bl b)) := PE.imp pe_bl fun σ H Q ⟨g, ρ, P, Ex, e, s0, _, t, q, _⟩ => by
  subst e; exact q _ t _ g (Step.refl s0.ok) (.bl b)
theorem de_non {j pos} : DE X W g0 (.Constant .none j pos) (dC .non) := PE.imp pe_non fun σ H Q ⟨g, ρ, P, Ex, e, s0, _, t, q, _⟩ => by
  subst e; exact q _ t _ g (Step.refl s0.ok) .non
theorem de_str {x j pos} : DE X W g0 (.Constant (.str x) j pos) (dC (.str x)) := PE.imp pe_str fun σ H Q ⟨g, ρ, P, Ex, e, s0, _, t, q, _⟩ => by
  subst e; exact q _ t _ g (Step.refl s0.ok) (.str x)
/-- a constant of the module -/
theorem de_glob {x : Str} {v : V} {u : Value} {d : D} {pos : Pos} (hm : X.mg x = some u) (r : RelV v u) (rd : ∀ g, Rep X.K g v d) (hg : Gl X x := by rfl) (hd : (x == ("__debug__" : Str)) = false := by decide) : DE X W g0 (.Name x pos) (dC d) :=
  PE.imp (pe_glob hg hm r hd) fun σ H Q ⟨g, ρ, P, Ex, e, s0, _, t, q, _⟩ => by
    subst e; exact q _ t _ g (Step.refl s0.ok) (rd g)

/-! ### operations on values -/
/-- what an operation's rule asks is had from data -/
def Rel2 (K : PySem.W.Frag) (r : R2) (f : D → D → (D → Prop) → Prop) : Prop := ∀ (g0 g : Gh) (x y : V) (a b : D) (P : D → Prop) (Q : VK), Step g0 g → Rep K g x a → Rep K g y b → f a b P → (∀ d, P d → ∀ v g', Step g g' → Rep K g' v d → Q v g'.H) → r x y g.H Q
theorem Rel2.or {r r' : R2} {f f' : D → D → (D → Prop) → Prop} (h : Rel2 K r f) (h' : Rel2 K r' f') : Rel2 K (fun x y H Q => r x y H Q ∨ r' x y H Q) (fun a b P => f a b P ∨ f' a b P) :=
  fun g0 g x y a b P Q s rx ry w q => w.elim (fun w => .inl (h g0 g x y a b P Q s rx ry w q)) (fun w => .inr (h' g0 g x y a b P Q s rx ry w q))
@[simp] def dOp (f : D → D → (D → Prop) → Prop) (ta tb : DT) : DT := fun ρ P Ex => ta ρ (fun x => tb ρ (fun y => f x y P) Ex) Ex
theorem lift2 {r : R2} {f : D → D → (D → Prop) → Prop} (hr : Rel2 X.K r f) {ta tb : DT} {σ : L2.St} {H : Hp} {Q : VK} (h : lift X.K W g0 (dOp f ta tb) σ H Q) : tOp r (lift X.K W g0 ta) (lift X.K W g0 tb) σ H Q := by
  obtain ⟨g, ρ, P, Ex, rfl, s0, e, t, q, x⟩ := h
  refine ⟨g, ρ, _, Ex, rfl, s0, e, t, fun a ha v g1 s1 r1 => ?_, x⟩
  refine ⟨g1, ρ, _, Ex, rfl, s0.trans s1, e.step s1, ha, fun b hb u g2 s2 r2 => ?_, x.step s1⟩
  exact hr g0 g2 v u a b P Q (s0.trans (s1.trans s2)) (r1.step s2) r2 hb fun d hd w g3 s3 r3 => q d hd w g3 (s1.trans (s2.trans s3)) r3
theorem de_op {op : Operator} {r : R2} {f : D → D → (D → Prop) → Prop} {a b : Expr} {ta tb : DT} {pos : Pos} (ho : OpR X (binaryOp op) r) (hr : Rel2 X.K r f) (ha : DE X W g0 a ta) (hb : DE X W g0 b tb) : DE X W g0 (.BinOp a op b pos) (dOp f ta tb) :=
  PE.imp (pe_op ho ha hb) fun σ H Q h => lift2 hr h
theorem de_cmp {op : CmpOp} {r : R2} {f : D → D → (D → Prop) → Prop} {a b : Expr} {ta tb : DT} {pos : Pos} (ho : OpR X (compareOp op) r) (hr : Rel2 X.K r f) (ha : DE X W g0 a ta) (hb : DE X W g0 b tb) (hm : behindInMarks op b = false) : DE X W g0 (.Compare a [op] [b] pos) (dOp f ta tb) :=
  PE.imp (pe_cmpR ho ha hb hm) fun σ H Q h => lift2 hr h
/-- a bool's value -/
@[simp] def onB (P : Bool → Prop) : D → Prop
  | .bl b => P b
  | _ => False
theorem onB.out {P : Bool → Prop} {d : D} (h : onB P d) : ∃ b, d = .bl b ∧ P b := by
  cases d with
  | bl b => exact ⟨b, rfl, h⟩
  | _ => exact h.elim
@[simp] def dTest (t : DT) : DB := fun ρ P Ex => t ρ (onB P) Ex
theorem lift_test {t : DT} {σ : L2.St} {H : Hp} {Q : Bool → Hp → Prop} (h : liftB X.K W g0 (dTest t) σ H Q) : lift X.K W g0 t σ H fun x H' => ∃ k, x = .bl k ∧ Q k H' := by
  obtain ⟨g, ρ, P, Ex, rfl, s0, e, t, q, x⟩ := h
  refine ⟨g, ρ, _, Ex, rfl, s0, e, t, fun d hd v g1 s1 r1 => ?_, x⟩
  obtain ⟨b, rfl, hb⟩ := hd.out
  cases r1
  exact ⟨b, rfl, q b hb g1 s1⟩
theorem dt_cmp {op : CmpOp} {r : R2} {f : D → D → (D → Prop) → Prop} {a b : Expr} {ta tb : DT} {pos : Pos} (ho : OpR X (compareOp op) r) (hr : Rel2 X.K r f) (ha : DE X W g0 a ta) (hb : DE X W g0 b tb) (hm : behindInMarks op b = false) :
    DTt X W g0 (.Compare a [op] [b] pos) (dTest (dOp f ta tb)) :=
  PT.imp (pt_cmpR ho ha hb hm) fun σ H Q h => lift2 hr (lift_test h)
theorem dt_val {e : Expr} {t : DT} (h : DE X W g0 e t) (he : ∀ whole, isTrue e X.env whole = (do let v ← whole; standAt e.pos; holding [v] (truthy v)) := by intro _; rfl) : DTt X W g0 e (dTest t) :=
  PT.imp (pt_val h he) fun σ H Q h => lift_test h
/-- a op1 b op2 c -/
@[simp] def dChain (f f' : D → D → (D → Prop) → Prop) (ta tb tc : DT) : DT := fun ρ P Ex => ta ρ (fun x => tb ρ (fun y => f x y (onB fun k => if k = true then tc ρ (fun z => f' y z P) Ex else P (.bl false))) Ex) Ex
theorem lift_chain {r r' : R2} {f f' : D → D → (D → Prop) → Prop} (hr : Rel2 X.K r f) (hr' : Rel2 X.K r' f') {ta tb tc : DT} {σ : L2.St} {H : Hp} {Q : VK} (h : lift X.K W g0 (dChain f f' ta tb tc) σ H Q) :
    tChain r r' (lift X.K W g0 ta) (lift X.K W g0 tb) (lift X.K W g0 tc) σ H Q := by
  obtain ⟨g, ρ, P, Ex, rfl, s0, e, t, q, x⟩ := h
  refine ⟨g, ρ, _, Ex, rfl, s0, e, t, fun a ha v g1 s1 r1 => ?_, x⟩
  refine ⟨g1, ρ, _, Ex, rfl, s0.trans s1, e.step s1, ha, fun b hb u g2 s2 r2 => ?_, x.step s1⟩
  refine hr g0 g2 v u a b _ _ (s0.trans (s1.trans s2)) (r1.step s2) r2 hb fun d hd w g3 s3 r3 => ?_
  obtain ⟨k, rfl, hk⟩ := hd.out
  cases r3
  refine ⟨k, rfl, ?_⟩
  cases k with
  | true =>
    rw [if_pos rfl] at hk ⊢
    refine ⟨g3, ρ, _, Ex, rfl, s0.trans (s1.trans (s2.trans s3)), e.step (s1.trans (s2.trans s3)), hk, fun c hc z g4 s4 r4 => ?_, x.step (s1.trans (s2.trans s3))⟩
    exact hr' g0 g4 u z b c P Q (s0.trans (s1.trans (s2.trans (s3.trans s4)))) (r2.step (s3.trans s4)) r4 hc fun d hd w g5 s5 r5 => q d hd w g5 (s1.trans (s2.trans (s3.trans (s4.trans s5)))) r5
  | false =>
    rw [if_neg Bool.false_ne_true] at hk ⊢
    exact q _ hk _ g3 (s1.trans (s2.trans s3)) (.bl false)
theorem de_chain {op op' : CmpOp} {r r' : R2} {f f' : D → D → (D → Prop) → Prop} {a b c : Expr} {ta tb tc : DT} {pos : Pos} (ho : OpR X (compareOp op) r) (hr : Rel2 X.K r f) (ho' : OpR X (compareOp op') r') (hr' : Rel2 X.K r' f') (ha : DE X W g0 a ta) (hb : DE X W g0 b tb) (hc : DE X W g0 c tc)
    (hm : lastMarks [op, op'] [b, c] = false := by with_unfolding_all rfl) : DE X W g0 (.Compare a [op, op'] [b, c] pos) (dChain f f' ta tb tc) :=
  PE.imp (pe_chain ho ho' ha hb hc hm) fun σ H Q h => lift_chain hr hr' h
theorem dt_chain {op op' : CmpOp} {r r' : R2} {f f' : D → D → (D → Prop) → Prop} {a b c : Expr} {ta tb tc : DT} {pos : Pos} (ho : OpR X (compareOp op) r) (hr : Rel2 X.K r f) (ho' : OpR X (compareOp op') r') (hr' : Rel2 X.K r' f') (ha : DE X W g0 a ta) (hb : DE X W g0 b tb) (hc : DE X W g0 c tc)
    (hm : lastMarks [op, op'] [b, c] = false := by with_unfolding_all rfl) : DTt X W g0 (.Compare a [op, op'] [b, c] pos) (dTest (dChain f f' ta tb tc)) :=
  PT.imp (pt_chain ho ho' ha hb hc hm) fun σ H Q h => lift_chain hr hr' (lift_test h)

/-! ### and, or, not, if -/
@[simp] def dAnd (t u : DB) : DB := fun ρ P Ex => t ρ (fun c => if c = true then u ρ P Ex else P false) Ex
@[simp] def dOr (t u : DB) : DB := fun ρ P Ex => t ρ (fun c => if c = true then P true else u ρ P Ex) Ex
@[simp] def dNot (t : DB) : DB := fun ρ P Ex => t ρ (fun c => P (!c)) Ex
abbrev DW (X : Cx) (W : WX) (g0 : Gh) (e : Expr) (t : DB) : Prop := PW X e (liftB X.K W g0 t)
theorem PW.imp {X : Cx} {e : Expr} {t t' : TT} (h : PW X e t) (i : ∀ σ H Q, t' σ H Q → t σ H Q) : PW X e t' := ⟨fun wh pins s σ H Q I w => h.run wh pins s σ H Q I (i _ _ _ w)⟩
section
variable {a b e c : Expr} {rest : List Expr} {t u : DB} {ta tb : DT} {pos : Pos}
theorem dw_and1 (ha : DTt X W g0 a t) : DW X W g0 (.BoolOp .And [a] pos) t := pw_and1 ha
theorem dw_or1 (ha : DTt X W g0 a t) : DW X W g0 (.BoolOp .Or [a] pos) t := pw_or1 ha
theorem dw_and (ha : DTt X W g0 a t) (hb : DW X W g0 (.BoolOp .And (b :: rest) pos) u) : DW X W g0 (.BoolOp .And (a :: b :: rest) pos) (dAnd t u) :=
  PW.imp (pw_and ha hb) fun σ H Q h => by
    obtain ⟨g, ρ, P, Ex, rfl, s0, e, t, q, x⟩ := h
    refine ⟨g, ρ, _, Ex, rfl, s0, e, t, fun k hk g1 s1 => ?_, x⟩
    cases k with
    | true =>
      rw [if_pos rfl] at hk ⊢
      exact ⟨g1, ρ, P, Ex, rfl, s0.trans s1, e.step s1, hk, fun d hd g2 s2 => q d hd g2 (s1.trans s2), x.step s1⟩
    | false =>
      rw [if_neg Bool.false_ne_true] at hk ⊢
      exact q _ hk g1 s1
theorem dw_or (ha : DTt X W g0 a t) (hb : DW X W g0 (.BoolOp .Or (b :: rest) pos) u) : DW X W g0 (.BoolOp .Or (a :: b :: rest) pos) (dOr t u) :=
  PW.imp (pw_or ha hb) fun σ H Q h => by
    obtain ⟨g, ρ, P, Ex, rfl, s0, e, t, q, x⟩ := h
    refine ⟨g, ρ, _, Ex, rfl, s0, e, t, fun k hk g1 s1 => ?_, x⟩
    cases k with
    | true =>
      rw [if_pos rfl] at hk ⊢
      exact q _ hk g1 s1
    | false =>
      rw [if_neg Bool.false_ne_true] at hk ⊢
      exact ⟨g1, ρ, P, Ex, rfl, s0.trans s1, e.step s1, hk, fun d hd g2 s2 => q d hd g2 (s1.trans s2), x.step s1⟩
theorem dt_w (h : DW X W g0 e t) : DTt X W g0 e t := h.pt
theorem dt_not (ha : DTt X W g0 a t) : DTt X W g0 (.UnaryOp .Not a pos) (dNot t) :=
  PT.imp (pt_not ha) fun σ H Q h => by
    obtain ⟨g, ρ, P, Ex, rfl, s0, e, t, q, x⟩ := h
    exact ⟨g, ρ, _, Ex, rfl, s0, e, t, fun k hk g1 s1 => q _ hk g1 s1, x⟩
/-- as values -/
@[simp] def dAndV (t u : DT) : DT := fun ρ P Ex => t ρ (onB fun c => if c = true then u ρ P Ex else P (.bl false)) Ex
@[simp] def dOrV (t u : DT) : DT := fun ρ P Ex => t ρ (onB fun c => if c = true then P (.bl true) else u ρ P Ex) Ex
@[simp] def dNotV (t : DT) : DT := fun ρ P Ex => t ρ (onB fun c => P (.bl (!c))) Ex
theorem de_one {op} (h : DE X W g0 a ta) : DE X W g0 (.BoolOp op [a] pos) ta := pe_one h
theorem de_and (ha : DE X W g0 a ta) (hb : DE X W g0 (.BoolOp .And (b :: rest) pos) tb) : DE X W g0 (.BoolOp .And (a :: b :: rest) pos) (dAndV ta tb) :=
  PE.imp (pe_and ha hb) fun σ H Q h => by
    obtain ⟨g, ρ, P, Ex, rfl, s0, e, t, q, x⟩ := h
    refine ⟨g, ρ, _, Ex, rfl, s0, e, t, fun d hd v g1 s1 r1 => ?_, x⟩
    obtain ⟨k, rfl, hk⟩ := hd.out
    cases r1
    refine ⟨k, rfl, ?_⟩
    cases k with
    | true =>
      rw [if_pos rfl] at hk ⊢
      exact ⟨g1, ρ, P, Ex, rfl, s0.trans s1, e.step s1, hk, fun d hd v g2 s2 r2 => q d hd v g2 (s1.trans s2) r2, x.step s1⟩
    | false =>
      rw [if_neg Bool.false_ne_true] at hk ⊢
      exact q _ hk _ g1 s1 (.bl false)
theorem de_or (ha : DE X W g0 a ta) (hb : DE X W g0 (.BoolOp .Or (b :: rest) pos) tb) : DE X W g0 (.BoolOp .Or (a :: b :: rest) pos) (dOrV ta tb) :=
  PE.imp (pe_or ha hb) fun σ H Q h => by
    obtain ⟨g, ρ, P, Ex, rfl, s0, e, t, q, x⟩ := h
    refine ⟨g, ρ, _, Ex, rfl, s0, e, t, fun d hd v g1 s1 r1 => ?_, x⟩
    obtain ⟨k, rfl, hk⟩ := hd.out
    cases r1
    refine ⟨k, rfl, ?_⟩
    cases k with
    | true =>
      rw [if_pos rfl] at hk ⊢
      exact q _ hk _ g1 s1 (.bl true)
    | false =>
      rw [if_neg Bool.false_ne_true] at hk ⊢
      exact ⟨g1, ρ, P, Ex, rfl, s0.trans s1, e.step s1, hk, fun d hd v g2 s2 r2 => q d hd v g2 (s1.trans s2) r2, x.step s1⟩
theorem de_not (ha : DE X W g0 a ta) : DE X W g0 (.UnaryOp .Not a pos) (dNotV ta) :=
  PE.imp (pe_not ha) fun σ H Q h => by
    obtain ⟨g, ρ, P, Ex, rfl, s0, e, t, q, x⟩ := h
    refine ⟨g, ρ, _, Ex, rfl, s0, e, t, fun d hd v g1 s1 r1 => ?_, x⟩
    obtain ⟨k, rfl, hk⟩ := hd.out
    cases r1
    exact ⟨k, rfl, q _ hk _ g1 s1 (.bl _)⟩
@[simp] def dIf (c : DB) (t u : DT) : DT := fun ρ P Ex => c ρ (fun k => if k = true then t ρ P Ex else u ρ P Ex) Ex
theorem de_ifExp {tc : DB} (hc : DTt X W g0 c tc) (ha : DE X W g0 a ta) (hb : DE X W g0 b tb) : DE X W g0 (.IfExp c a b pos) (dIf tc ta tb) :=
  PE.imp (pe_ifExp hc ha hb) fun σ H Q h => by
    obtain ⟨g, ρ, P, Ex, rfl, s0, e, t, q, x⟩ := h
    refine ⟨g, ρ, _, Ex, rfl, s0, e, t, fun k hk g1 s1 => ?_, x⟩
    cases k with
    | true =>
      rw [if_pos rfl] at hk ⊢
      exact ⟨g1, ρ, P, Ex, rfl, s0.trans s1, e.step s1, hk, fun d hd v g2 s2 r2 => q d hd v g2 (s1.trans s2) r2, x.step s1⟩
    | false =>
      rw [if_neg Bool.false_ne_true] at hk ⊢
      exact ⟨g1, ρ, P, Ex, rfl, s0.trans s1, e.step s1, hk, fun d hd v g2 s2 r2 => q d hd v g2 (s1.trans s2) r2, x.step s1⟩
end

/-! ### arguments, displays -/
@[simp] def dNil : DA := fun _ P _ => P []
@[simp] def dCons (t : DT) (r : DA) : DA := fun ρ P Ex => t ρ (fun d => r ρ (fun ds => P (d :: ds)) Ex) Ex
section
variable {e : Expr} {es : List Expr} {t : DT} {ts : DA} {pos : Pos}
theorem da_nil : DPA X W g0 [] dNil := PA.imp pa_nil fun σ H Q ⟨g, ρ, P, Ex, e, s0, _, t, q, _⟩ => by
  subst e; exact q _ t _ g (Step.refl s0.ok) .nil
theorem da_cons (ha : DE X W g0 e t) (hr : DPA X W g0 es ts) (hs : starEach (e :: es) X.env = (false, eval e X.env) :: starEach es X.env := by rfl) : DPA X W g0 (e :: es) (dCons t ts) :=
  PA.imp (pa_cons ha hr hs) fun σ H Q h => by
    obtain ⟨g, ρ, P, Ex, rfl, s0, e, t, q, x⟩ := h
    refine ⟨g, ρ, _, Ex, rfl, s0, e, t, fun d hd v g1 s1 r1 => ?_, x⟩
    exact ⟨g1, ρ, _, Ex, rfl, s0.trans s1, e.step s1, hd, fun ds hds vs g2 s2 r2 => q _ hds _ g2 (s1.trans s2) (.cons (r1.step s2) r2), x.step s1⟩
@[simp] def dTup (ts : DA) : DT := fun ρ P Ex => ts ρ (fun ds => ds.length ≤ 16777216 ∧ P (.tup ds)) Ex
@[simp] def dLst (ts : DA) : DT := fun ρ P Ex => ts ρ (fun ds => ds.length ≤ 16777216 ∧ P (.lst ds)) Ex
theorem newTup {K : PySem.W.Frag} {g : Gh} (h : Hold g) {p : Addr} {vs : List V} {ds : List D} (e : g.H p = none) (r : Reps K g vs ds) : Step g (g.new p (.tup vs)) ∧ Rep K (g.new p (.tup vs)) (.ref p) (.tup ds) := by
  have s := h.new (.tup vs) e
  exact ⟨s, .tup (SqT.of (K := K) (show upd g.G p (.tup vs) p = some _ from upd_same)) (r.step s)⟩
theorem newLst {K : PySem.W.Frag} {g : Gh} (h : Hold g) {p : Addr} {vs : List V} {ds : List D} (e : g.H p = none) (r : Reps K g vs ds) : Step g (g.new p (.lst vs)) ∧ Rep K (g.new p (.lst vs)) (.ref p) (.lst ds) := by
  have s := h.new (.lst vs) e
  exact ⟨s, .lst (show upd g.G p (.lst vs) p = some _ from upd_same) (r.step s)⟩
theorem n0_of {g0 g : Gh} (s : Step g0 g) {p : Addr} (e : g.H p = none) : g0.H p = none := s.none e
theorem ownLst {K : PySem.W.Frag} {g0 g : Gh} (s0 : Step g0 g) {p : Addr} {vs : List V} {ds : List D} (e : g.H p = none) (r : Reps K g vs ds) : Step g (g.own p (.lst vs)) ∧ Own K g0 (g.own p (.lst vs)) p (.lst ds) := by
  have s := s0.ok.own (.lst vs) e
  exact ⟨s, n0_of s0 e, s0.ok.free e, s0.ok.notM e, vs, upd_same, r.step s⟩
theorem de_tup {k} (h : DPA X W g0 es ts) : DE X W g0 (.Tuple es k pos) (dTup ts) :=
  PE.imp (pe_tup h) fun σ H Q h => by
    obtain ⟨g, ρ, P, Ex, rfl, s0, e, t, q, x⟩ := h
    refine ⟨g, ρ, _, Ex, rfl, s0, e, t, fun ds hd vs g1 s1 r1 => ?_, x⟩
    obtain ⟨hz, hp⟩ := hd
    refine ⟨by rw [r1.length, sizeLine_eq]; exact hz, fun p hpn => ?_⟩
    obtain ⟨s2, r2⟩ := newTup s1.ok hpn r1
    exact q _ hp _ _ (s1.trans s2) r2
theorem de_lst (h : DPA X W g0 es ts) : DE X W g0 (.List es pos) (dLst ts) :=
  PE.imp (pe_lst h) fun σ H Q h => by
    obtain ⟨g, ρ, P, Ex, rfl, s0, e, t, q, x⟩ := h
    refine ⟨g, ρ, _, Ex, rfl, s0, e, t, fun ds hd vs g1 s1 r1 => ?_, x⟩
    obtain ⟨hz, hp⟩ := hd
    refine ⟨by rw [r1.length, sizeLine_eq]; exact hz, fun p hpn => ?_⟩
    obtain ⟨s2, r2⟩ := newLst s1.ok hpn r1
    exact q _ hp _ _ (s1.trans s2) r2
theorem df_lst (h : DPA X W g0 es ts) : DF X W g0 (.List es pos) (dLst ts) :=
  PE.imp (pe_lst h) fun σ H Q h => by
    obtain ⟨g, ρ, P, Ex, rfl, s0, e, t, q, x⟩ := h
    refine ⟨g, ρ, _, Ex, rfl, s0, e, t, fun ds hd vs g1 s1 r1 => ?_, x⟩
    obtain ⟨hz, hp⟩ := hd
    refine ⟨by rw [r1.length, sizeLine_eq]; exact hz, fun p hpn => ?_⟩
    obtain ⟨s2, r2⟩ := ownLst (s0.trans s1) hpn r1
    exact q _ hp p _ (s1.trans s2) (s1.none hpn) r2
end
end

/-! ### statements -/
structure EndsD where
  nx : Rho → Prop
  rt : D → Prop
  bk : Rho → Prop
  ct : Rho → Prop
  ex : Rho → Str → Prop
abbrev DS := Rho → EndsD → Prop
/-- the wishes over data give the wishes over the heap -/
structure Lk (K : PySem.W.Frag) (W : WX) (g0 : Gh) (k : EndsD) (E : Ends) : Prop where
  nx : ∀ ρ σ g, Step g0 g → EnvOk K g0 g ρ σ → k.nx ρ → E.nx σ g.H
  rt : ∀ d v g, Step g0 g → Rep K g v d → k.rt d → E.rt v g.H
  bk : ∀ ρ σ g, Step g0 g → EnvOk K g0 g ρ σ → k.bk ρ → E.bk σ g.H
  ct : ∀ ρ σ g, Step g0 g → EnvOk K g0 g ρ σ → k.ct ρ → E.ct σ g.H
  ex : ∀ ρ c σ g, Step g0 g → EnvOk K g0 g ρ σ → k.ex ρ c → W (.ref (He.ga K c)) none σ g.H
def liftS (K : PySem.W.Frag) (W : WX) (g0 : Gh) (t : DS) : TS := fun E σ H => ∃ (g : Gh) (ρ : Rho) (k : EndsD), g.H = H ∧ Step g0 g ∧ EnvOk K g0 g ρ σ ∧ t ρ k ∧ Lk K W g0 k E
abbrev DP (X : Cx) (W : WX) (g0 : Gh) (s : Stmt) (t : DS) : Prop := PS X s (liftS X.K W g0 t)
abbrev DPs (X : Cx) (W : WX) (g0 : Gh) (s : List Stmt) (t : DS) : Prop := PSs X s (liftS X.K W g0 t)
theorem Lk.xok {K : PySem.W.Frag} {W : WX} {g0 g : Gh} {k : EndsD} {E : Ends} (l : Lk K W g0 k E) (s0 : Step g0 g) {ρ : Rho} {σ : L2.St} (e : EnvOk K g0 g ρ σ) : XOk K W g σ (k.ex ρ) := fun c h g' s => l.ex ρ c σ g' (s0.trans s) (e.step s) h
@[simp] def dNext : DS := fun ρ k => k.nx ρ
@[simp] def dSeq (t u : DS) : DS := fun ρ k => t ρ { k with nx := fun ρ' => u ρ' k }
@[simp] def dNever : DS := fun _ _ => False
@[simp] def dRet (t : DT) : DS := fun ρ k => t ρ k.rt (k.ex ρ)
@[simp] def dDrop (t : DT) : DS := fun ρ k => t ρ (fun _ => k.nx ρ) (k.ex ρ)
@[simp] def dIfS (c : DB) (t u : DS) : DS := fun ρ k => c ρ (fun b => if b = true then t ρ k else u ρ k) (k.ex ρ)
@[simp] def dSet (i : Nat) (t : DT) : DS := fun ρ k => t ρ (fun d => k.nx (ρ.set i (.fz d))) (k.ex ρ)
@[simp] def dOwn (i : Nat) (t : DT) : DS := fun ρ k => t ρ (fun d => k.nx (ρ.set i (.ow d))) (k.ex ρ)
section
variable {X : Cx} {W : WX} {g0 : Gh} {st : Stmt} {rest : List Stmt} {t u : DS} {e : Expr} {te : DT} {pos : Pos}
theorem dp_nil : DPs X W g0 [] dNext := PSs.imp pss_nil fun E σ H h => by
  obtain ⟨g, ρ, k, rfl, s0, e, t, l⟩ := h
  exact l.nx ρ σ g s0 e t
theorem dp_cons (h1 : DP X W g0 st t) (h2 : DPs X W g0 rest u) : DPs X W g0 (st :: rest) (dSeq t u) := PSs.imp (pss_cons h1 h2) fun E σ H h => by
  obtain ⟨g, ρ, k, rfl, s0, e, t, l⟩ := h
  exact ⟨g, ρ, _, rfl, s0, e, t, ⟨fun ρ' σ' g' s' e' w => ⟨g', ρ', k, rfl, s', e', w, l⟩, l.rt, l.bk, l.ct, l.ex⟩⟩
theorem dp_one (h1 : DP X W g0 st t) : DPs X W g0 [st] t := pss_one h1
theorem dp_never : DP X W g0 st dNever := PS.imp ps_never fun E σ H h => by
  obtain ⟨g, ρ, k, rfl, s0, e, t, l⟩ := h
  exact t
theorem dps_never : DPs X W g0 rest dNever := PSs.imp pss_never fun E σ H h => by
  obtain ⟨g, ρ, k, rfl, s0, e, t, l⟩ := h
  exact t
theorem dp_pass : DP X W g0 (.Pass pos) dNext := PS.imp ps_pass fun E σ H h => by
  obtain ⟨g, ρ, k, rfl, s0, e, t, l⟩ := h
  exact l.nx ρ σ g s0 e t
theorem dp_ret (he : DE X W g0 e te) : DP X W g0 (.Return (some e) pos) (dRet te) := PS.imp (ps_ret he) fun E σ H h => by
  obtain ⟨g, ρ, k, rfl, s0, e, t, l⟩ := h
  exact ⟨g, ρ, _, _, rfl, s0, e, t, fun d hd v g' s r => l.rt d v g' (s0.trans s) r hd, l.xok s0 e⟩
theorem dp_expr (he : DE X W g0 e te) (hs : swapsWith e none pos.line X.env = pure false := by rfl) : DP X W g0 (.Expr e pos) (dDrop te) := PS.imp (ps_expr he hs) fun E σ H h => by
  obtain ⟨g, ρ, k, rfl, s0, e, t, l⟩ := h
  exact ⟨g, ρ, _, _, rfl, s0, e, t, fun d hd v g' s r => l.nx ρ σ g' (s0.trans s) (e.step s) hd, l.xok s0 e⟩
theorem dp_if {c : Expr} {a b : List Stmt} {tc : DB} (hc : DTt X W g0 c tc) (ha : DPs X W g0 a t) (hb : DPs X W g0 b u) : DP X W g0 (.If c a b pos) (dIfS tc t u) := PS.imp (ps_if hc ha hb) fun E σ H h => by
  obtain ⟨g, ρ, k, rfl, s0, e, t, l⟩ := h
  refine ⟨g, ρ, _, _, rfl, s0, e, t, fun b hb g' s => ?_, l.xok s0 e⟩
  cases b with
  | true =>
    rw [if_pos rfl] at hb ⊢
    exact ⟨g', ρ, k, rfl, s0.trans s, e.step s, hb, l⟩
  | false =>
    rw [if_neg Bool.false_ne_true] at hb ⊢
    exact ⟨g', ρ, k, rfl, s0.trans s, e.step s, hb, l⟩
/-! targets -/
abbrev DG := D → Rho → (Rho → Prop) → Prop
abbrev DGs := List D → Rho → (Rho → Prop) → Prop
/-- vs: the slots that the target may change -/
def liftG (K : PySem.W.Frag) (g0 : Gh) (vs : List Nat) (t : DG) : TG := fun v σ H Q => ∃ (g : Gh) (ρ : Rho) (d : D) (P : Rho → Prop), g.H = H ∧ Step g0 g ∧ EnvOk K g0 g ρ σ ∧ Rep K g v d ∧ t d ρ P ∧ ∀ ρ' σ', EnvOk K g0 g ρ' σ' → wipe σ' vs = wipe σ vs → P ρ' → Q σ' H
def liftGs (K : PySem.W.Frag) (g0 : Gh) (vs : List Nat) (t : DGs) : TGs := fun v σ H Q => ∃ (g : Gh) (ρ : Rho) (d : List D) (P : Rho → Prop), g.H = H ∧ Step g0 g ∧ EnvOk K g0 g ρ σ ∧ Reps K g v d ∧ t d ρ P ∧ ∀ ρ' σ', EnvOk K g0 g ρ' σ' → wipe σ' vs = wipe σ vs → P ρ' → Q σ' H
theorem wipe_get (σ : L2.St) : ∀ (vs : List Nat) (j : Nat), (wipe σ vs)[j]? = if j ∈ vs ∧ j < σ.length then some none else σ[j]?
  | [], j => by simp [wipe]
  | v :: vs, j => by
    show ((wipe σ vs).set v none)[j]? = _
    by_cases h : v = j
    · subst h
      by_cases hl : v < σ.length
      · rw [List.getElem?_set_self (by rw [wipe_length]; exact hl), if_pos ⟨List.mem_cons_self, hl⟩]
      · rw [List.getElem?_eq_none (by rw [List.length_set, wipe_length]; omega), if_neg (fun z => hl z.2), List.getElem?_eq_none (by omega)]
    · rw [List.getElem?_set_ne h, wipe_get σ vs j]
      have e : (j ∈ v :: vs) ↔ j ∈ vs := by
        rw [List.mem_cons]
        exact ⟨fun z => z.elim (fun q => absurd q.symm h) id, .inr⟩
      simp only [e]
theorem wipe_set {σ : L2.St} {vs : List Nat} {i : Nat} (h : i ∈ vs) (x : Option V) : wipe (σ.set i x) vs = wipe σ vs := by
  apply List.ext_getElem?
  intro j
  rw [wipe_get, wipe_get, List.length_set]
  by_cases hj : j ∈ vs ∧ j < σ.length
  · rw [if_pos hj, if_pos hj]
  · rw [if_neg hj, if_neg hj]
    by_cases e : i = j
    · subst e
      rw [List.getElem?_eq_none (by rw [List.length_set]; exact Nat.le_of_not_lt fun z => hj ⟨h, z⟩), List.getElem?_eq_none (Nat.le_of_not_lt fun z => hj ⟨h, z⟩)]
    · rw [List.getElem?_set_ne e]
theorem PG.imp {X : Cx} {e : Expr} {t t' : TG} (h : PG X e t) (i : ∀ v σ H Q, t' v σ H Q → t v σ H Q) : PG X e t' := ⟨fun pins s σ H v u Q I r w => h.run pins s σ H v u Q I r (i _ _ _ _ w)⟩
theorem PGs.imp {X : Cx} {e : List Expr} {t t' : TGs} (h : PGs X e t) (i : ∀ v σ H Q, t' v σ H Q → t v σ H Q) : PGs X e t' := ⟨fun pins s σ H v u Q I r w => h.run pins s σ H v u Q I r (i _ _ _ _ w)⟩
abbrev DPG (X : Cx) (g0 : Gh) (vs : List Nat) (e : Expr) (t : DG) : Prop := PG X e (liftG X.K g0 vs t)
abbrev DPGs (X : Cx) (g0 : Gh) (vs : List Nat) (e : List Expr) (t : DGs) : Prop := PGs X e (liftGs X.K g0 vs t)
@[simp] def dgN (i : Nat) : DG := fun d ρ Q => Q (ρ.set i (.fz d))
@[simp] def dgNil : DGs := fun ds ρ Q => match ds with
  | [] => Q ρ
  | _ => False
@[simp] def dgCons (t : DG) (r : DGs) : DGs := fun ds ρ Q => match ds with
  | d :: ds => t d ρ fun ρ' => r ds ρ' Q
  | _ => False
/-- a tuple's items -/
@[simp] def dgTup (t : DGs) : DG := fun d ρ Q => match d with
  | .tup ds => t ds ρ Q
  | _ => False
def dgLst (t : DGs) : DG := fun d ρ Q => match d with
  | .lst ds => t ds ρ Q
  | _ => False
/-- how many names a target list has -/
def DLen (t : DGs) (n : Nat) : Prop := ∀ ds ρ Q, t ds ρ Q → ds.length = n
theorem dlen_nil : DLen dgNil 0 := fun ds ρ Q h => by
  cases ds with
  | nil => rfl
  | cons _ _ => exact h.elim
theorem dlen_cons {t : DG} {r : DGs} {n : Nat} (ht : ∀ d ρ Q, t d ρ Q → ∃ ρ', Q ρ') (h : DLen r n) : DLen (dgCons t r) (n + 1) := fun ds ρ Q w => by
  cases ds with
  | nil => exact w.elim
  | cons d ds =>
    obtain ⟨ρ', w'⟩ := ht d ρ _ w
    rw [List.length_cons, h ds ρ' Q w']
def DLive (t : DG) : Prop := ∀ d ρ Q, t d ρ Q → ∃ ρ', Q ρ'
def DLives (t : DGs) : Prop := ∀ d ρ Q, t d ρ Q → ∃ ρ', Q ρ'
theorem live_n {i : Nat} : DLive (dgN i) := fun d ρ Q h => ⟨_, h⟩
theorem lives_nil : DLives dgNil := fun ds ρ Q h => by
  cases ds with
  | nil => exact ⟨_, h⟩
  | cons _ _ => exact h.elim
theorem lives_cons {t : DG} {r : DGs} (ht : DLive t) (hr : DLives r) : DLives (dgCons t r) := fun ds ρ Q h => by
  cases ds with
  | nil => exact h.elim
  | cons d ds =>
    obtain ⟨ρ', w⟩ := ht d ρ _ h
    exact hr ds ρ' Q w
theorem live_tup {t : DGs} (h : DLives t) : DLive (dgTup t) := fun d ρ Q w => by
  cases d with
  | tup ds => exact h ds ρ Q w
  | _ => exact w.elim
theorem dg_name {vs : List Nat} (i : Nat) {x : Str} (hN : X.N.Nodup) (hv : i ∈ vs := by decide) (hi : X.N[i]? = some x := by rfl) (hx : Loc X.env.scope x := by first | exact Or.inl rfl | exact Or.inr rfl) (hf : X.fn x = true ∨ X.env.scope.names.lookup x = some .local := by first | exact .inl rfl | exact .inr rfl | assumption) : DPG X g0 vs (.Name x pos) (dgN i) :=
  PG.imp (pg_name hN hi hx hf) fun v σ H Q h => by
    obtain ⟨g, ρ, d, P, rfl, s0, e, r, t, q⟩ := h
    exact q _ _ (e.set r i) (wipe_set hv _) t
theorem dgs_nil {vs : List Nat} : DPGs X g0 vs [] dgNil := PGs.imp pgs_nil fun v σ H Q h => by
  obtain ⟨g, ρ, d, P, rfl, s0, e, r, t, q⟩ := h
  cases r with
  | nil => exact ⟨rfl, q _ _ e rfl t⟩
  | cons _ _ => exact t.elim
theorem dgs_cons {sl : List Nat} {es : List Expr} {t : DG} {r : DGs} (h1 : DPG X g0 sl e t) (h2 : DPGs X g0 sl es r) (hs : (assignEach (e :: es) X.env).map (·.2) = assign e X.env :: (assignEach es X.env).map (·.2) := by rfl) : DPGs X g0 sl (e :: es) (dgCons t r) :=
  PGs.imp (pgs_cons h1 h2 hs) fun v σ H Q h => by
    obtain ⟨g, ρ, d, P, rfl, s0, e, r, t, q⟩ := h
    cases r with
    | nil => exact t.elim
    | cons r1 r2 =>
      rename_i v vs d ds
      exact ⟨v, vs, rfl, g, ρ, d, _, rfl, s0, e, r1, t, fun ρ' σ' e' z w => ⟨g, ρ', ds, P, rfl, s0, e', r2, w, fun ρ2 σ2 e2 z2 w2 => q ρ2 σ2 e2 (z2.trans z) w2⟩⟩
theorem dg_tup {sl : List Nat} {es : List Expr} {k : Nat} {t : DGs} {n : Nat} (hc : X.calm = true) (h : DPGs X g0 sl es t) (hl : DLen t n) (hn : (assignEach es X.env).length = n := by rfl) (hst : (assignEach es X.env).findIdx? (·.1) = none := by rfl) : DPG X g0 sl (.Tuple es k pos) (dgTup t) :=
  PG.imp (pg_tup hc h hn hst) fun v σ H Q h => by
    obtain ⟨g, ρ, d, P, rfl, s0, e, r, t, q⟩ := h
    cases r with
    | tup ha rs => exact ⟨_, _, rfl, s0.ok.sqT ha, rs.length.trans (hl _ _ _ t), g, ρ, _, P, rfl, s0, e, rs, t, q⟩
    | _ => exact t.elim
theorem dg_lst {sl : List Nat} {es : List Expr} {k : Nat} {t : DGs} {n : Nat} (hc : X.calm = true) (h : DPGs X g0 sl es t) (hl : DLen t n) (hn : (assignEach es X.env).length = n := by rfl) (hst : (assignEach es X.env).findIdx? (·.1) = none := by rfl) : DPG X g0 sl (.Tuple es k pos) (dgLst t) :=
  PG.imp (pg_lst hc h hn hst) fun v σ H Q h => by
    obtain ⟨g, ρ, d, P, rfl, s0, e, r, t, q⟩ := h
    cases r with
    | lst ha rs => exact ⟨_, _, rfl, SqL.of (s0.ok.lst ha), rs.length.trans (hl _ _ _ t), g, ρ, _, P, rfl, s0, e, rs, t, q⟩
    | _ => exact t.elim
/-- target = value -/
@[simp] def dAsg (t : DT) (gt : DG) : DS := fun ρ k => t ρ (fun d => gt d ρ k.nx) (k.ex ρ)
theorem dp_asg {sl : List Nat} {tg : Expr} {gt : DG} (he : DE X W g0 e te) (hg : DPG X g0 sl tg gt) (hs : swapsWithSole [tg] e pos.line X.env = pure false := by rfl) (hw : swappedStores [tg] e X.env = pure none := by rfl)
    (h1 : (assignEach [tg] X.env).map (·.2) = [assign tg X.env] := by rfl) : DP X W g0 (.Assign [tg] e pos) (dAsg te gt) := PS.imp (ps_asg he hg hs hw h1) fun E σ H h => by
  obtain ⟨g, ρ, k, rfl, s0, e, t, l⟩ := h
  refine ⟨g, ρ, _, _, rfl, s0, e, t, fun d hd v g' s r => ?_, l.xok s0 e⟩
  exact ⟨g', ρ, d, _, rfl, s0.trans s, e.step s, r, hd, fun ρ' σ' e' _ w => l.nx ρ' σ' g' (s0.trans s) e' w⟩
theorem dp_set (i : Nat) {x : Str} {pos' : Pos} (hN : X.N.Nodup) (he : DE X W g0 e te) (hi : X.N[i]? = some x := by rfl) (hx : Loc X.env.scope x := by first | exact Or.inl rfl | exact Or.inr rfl) (hs : swapsWith e (some (.Name x pos')) pos.line X.env = pure false := by rfl)
    (hf : X.fn x = true ∨ X.env.scope.names.lookup x = some .local := by first | exact .inl rfl | exact .inr rfl | assumption) : DP X W g0 (.Assign [.Name x pos'] e pos) (dSet i te) := PS.imp (ps_set hN hi hx he hs hf) fun E σ H h => by
  obtain ⟨g, ρ, k, rfl, s0, e, t, l⟩ := h
  exact ⟨g, ρ, _, _, rfl, s0, e, t, fun d hd v g' s r => l.nx _ _ g' (s0.trans s) ((e.step s).set r i) hd, l.xok s0 e⟩
/-- x = [], x = list(y) ..: what is new and x's own -/
theorem dp_own (i : Nat) {x : Str} {pos' : Pos} (hN : X.N.Nodup) (he : DF X W g0 e te) (hi : X.N[i]? = some x := by rfl) (hx : Loc X.env.scope x := by first | exact Or.inl rfl | exact Or.inr rfl) (hs : swapsWith e (some (.Name x pos')) pos.line X.env = pure false := by rfl)
    (hf : X.fn x = true ∨ X.env.scope.names.lookup x = some .local := by first | exact .inl rfl | exact .inr rfl | assumption) : DP X W g0 (.Assign [.Name x pos'] e pos) (dOwn i te) := PS.imp (ps_set hN hi hx he hs hf) fun E σ H h => by
  obtain ⟨g, ρ, k, rfl, s0, e, t, l⟩ := h
  refine ⟨g, ρ, _, _, rfl, s0, e, t, fun d hd p g' s hp o => l.nx _ _ g' (s0.trans s) ((e.step s).setOwn o i fun j x hj h1 h2 => ?_) hd, l.xok s0 e⟩
  obtain ⟨p', h3, o'⟩ := e.ow j x h1
  rw [h2] at h3
  cases h3
  obtain ⟨u, hu, _⟩ := OwnH.some o'.at_
  rw [hp] at hu
  cases hu
/-- what is one's own is given away: it doesn't change any more -/
@[simp] def dFz (i : Nat) (t : DS) : DS := fun ρ k => match ρ[i]? with
  | some (.ow d) => t (ρ.set i (.fz d)) k
  | _ => False
theorem Own.freeze {K : PySem.W.Frag} {g0 g : Gh} {p : Addr} {d : D} (s0 : Step g0 g) (o : Own K g0 g p d) : ∃ g', g'.H = g.H ∧ Step g0 g' ∧ Rep K g' (.ref p) d ∧ (∀ b u, g.G b = some u → g'.G b = some u) ∧ (∀ b ∈ g.M, b ∈ g'.M) ∧ (∀ b, b ≠ p → g'.G b = g.G b) ∧ g'.M = g.M := by
  obtain ⟨u, hu, nt⟩ := OwnH.some o.at_
  have gs : ∀ b w, g.G b = some w → upd g.G p u b = some w := fun b w h => by rw [upd_ne (ne_of_none h o.ng)]; exact h
  have hok : Hold ⟨upd g.G p u, g.M, g.H⟩ := by
    refine ⟨fun a w h => ?_, fun a hm => ?_, fun a hm => ?_⟩
    · have h' : upd g.G p u a = some w := h
      by_cases ha : a = p
      · subst ha
        rw [upd_same] at h'
        cases h'
        exact .inl hu
      · rw [upd_ne ha] at h'
        exact s0.ok.le a w h'
    · show upd g.G p u a = none
      have ha : a ≠ p := fun z => o.nm (z ▸ hm)
      rw [upd_ne ha]
      exact s0.ok.dis a hm
    · obtain ⟨l, ns, i, c, st, h1, h2, h3⟩ := s0.ok.mok a hm
      exact ⟨l, ns, i, c, st, h1, gs _ _ h2, h3⟩
  refine ⟨⟨upd g.G p u, g.M, g.H⟩, rfl, ⟨fun a w h => gs _ _ (s0.gs a w h), fun a w h => ?_, s0.ms, s0.mn, s0.hs, hok⟩, ?_, gs, fun _ h => h, fun b hb => upd_ne hb, rfl⟩
  · have h' : upd g.G p u a = some w := h
    by_cases ha : a = p
    · right; left; rw [ha]; exact o.n0
    · rw [upd_ne ha] at h'
      exact s0.gn a w h'
  · have at_ := o.at_
    cases d with
    | lst ds =>
      obtain ⟨vs, e, r⟩ := at_
      rw [e] at hu; cases hu
      exact .lst (show upd g.G p _ p = _ from upd_same) (r.up (g' := ⟨upd g.G p _, g.M, g.H⟩) gs fun _ h => h)
    | dS ds =>
      obtain ⟨vs, e, r⟩ := at_
      rw [e] at hu; cases hu
      exact .dS (show upd g.G p _ p = _ from upd_same) (r.up (g' := ⟨upd g.G p _, g.M, g.H⟩) gs fun _ h => h)
    | dT ds =>
      obtain ⟨vs, e, r⟩ := at_
      rw [e] at hu; cases hu
      exact .dT (show upd g.G p _ p = _ from upd_same) (r.up (g' := ⟨upd g.G p _, g.M, g.H⟩) gs fun _ h => h)
    | _ => exact at_.elim
theorem lift_fz {K : PySem.W.Frag} {i : Nat} {t : DS} {E : Ends} {σ : L2.St} {H : Hp} (h : liftS K W g0 (dFz i t) E σ H) : liftS K W g0 t E σ H := by
  obtain ⟨g, ρ, k, rfl, s0, e, w, l⟩ := h
  unfold dFz at w
  split at w
  · rename_i d hd
    obtain ⟨p, h1, o⟩ := e.ow i d hd
    obtain ⟨g', eh, s', r', gs, gm, go, em⟩ := o.freeze s0
    have e' : EnvOk K g0 g' (ρ.set i (.fz d)) σ := by
      have hi : i < ρ.length := (List.getElem?_eq_some_iff.mp hd).1
      have ne : ∀ (j : Nat) (x : D), (ρ.set i (.fz d))[j]? = some (.ow x) → i ≠ j := fun j x h hj => by
        subst hj
        rw [List.getElem?_set_self hi] at h; cases h
      refine ⟨by rw [List.length_set]; exact e.len, fun j x hx => ?_, fun j x hx => ?_, fun j m x y q hjm a1 a2 a3 a4 => ?_⟩
      · by_cases hj : i = j
        · subst hj
          rw [List.getElem?_set_self hi] at hx
          cases hx
          exact ⟨_, h1, r'⟩
        · rw [List.getElem?_set_ne hj] at hx
          obtain ⟨v, b1, b2⟩ := e.fz j x hx
          exact ⟨v, b1, b2.up gs gm⟩
      · have nj := ne j x hx
        rw [List.getElem?_set_ne nj] at hx
        obtain ⟨q, b1, b2⟩ := e.ow j x hx
        have hq : q ≠ p := fun z => e.ap i j d x p nj hd hx h1 (by rw [← z]; exact b1)
        refine ⟨q, b1, b2.n0, by rw [go q hq]; exact b2.ng, by rw [em]; exact b2.nm, ?_⟩
        have at_ := b2.at_
        cases x with
        | lst ds => obtain ⟨vs, z, r⟩ := at_; exact ⟨vs, by rw [eh]; exact z, r.up gs gm⟩
        | dS ds => obtain ⟨vs, z, r⟩ := at_; exact ⟨vs, by rw [eh]; exact z, r.up gs gm⟩
        | dT ds => obtain ⟨vs, z, r⟩ := at_; exact ⟨vs, by rw [eh]; exact z, r.up gs gm⟩
        | _ => exact at_.elim
      · have nj := ne j x a1
        have nk := ne m y a2
        rw [List.getElem?_set_ne nj] at a1
        rw [List.getElem?_set_ne nk] at a2
        exact e.ap j m x y q hjm a1 a2 a3 a4
    exact ⟨g', _, k, eh, s', e', w, l⟩
  · exact w.elim
theorem dp_fz (i : Nat) (h : DP X W g0 st t) : DP X W g0 st (dFz i t) := PS.imp h fun E σ H w => lift_fz w
end
end AU

/-! AuFn: what a def promises over data, its call, its body; raise, try; for, while. -/
namespace AU
open PySem L2 PySem.Spec PyProof.Rows

/-- what a def does with data: the wish for what it hands back, the wish for what it raises -/
abbrev Spec := List D → (D → Prop) → (Str → Prop) → Prop
def spD (K : PySem.W.Frag) (S : Spec) : Sp := fun vs H Q E => ∃ (g : Gh) (ds : List D) (P : D → Prop) (Ex : Str → Prop), g.H = H ∧ Hold g ∧ Reps K g vs ds ∧ S ds P Ex ∧
  (∀ d, P d → ∀ v g', Step g g' → Rep K g' v d → Q v g'.H) ∧ (∀ c, Ex c → ∀ g', Step g g' → E (.ref (He.ga K c)) none g'.H)
/-- the def that the module's name x stands for keeps S, by k levels -/
def Fn (P : Program) (w : World) (K : PySem.W.Frag) (mg : Str → Option Value) (base : Heap) (k : Nat) (x : Str) (S : Spec) : Prop :=
  ∃ (f : Addr) (fd : FuncData) (ps : List Str), FnOk P w K mg base (L2.CX P w) k f fd ps (spD K S) ∧ mg x = some (.ref f) ∧ PySem.W.keepIn K (.ref f) = true ∧ Binds K fd ps []
theorem Fn.mono {P : Program} {w : World} {K : PySem.W.Frag} {mg : Str → Option Value} {base : Heap} {j k : Nat} {x : Str} {S : Spec} (h : Fn P w K mg base j x S) (hk : j ≤ k) : Fn P w K mg base k x S := by
  obtain ⟨f, fd, ps, F, r⟩ := h
  exact ⟨f, fd, ps, F.mono hk, r⟩
theorem Fn.imp {P : Program} {w : World} {K : PySem.W.Frag} {mg : Str → Option Value} {base : Heap} {k : Nat} {x : Str} {S S' : Spec} (h : Fn P w K mg base k x S) (hs : ∀ ds P Ex, S' ds P Ex → S ds P Ex) : Fn P w K mg base k x S' := by
  obtain ⟨f, fd, ps, F, r⟩ := h
  refine ⟨f, fd, ps, F.imp fun vs H Q E q => ?_, r⟩
  obtain ⟨g, ds, P, Ex, e, h1, h2, h3, h4⟩ := q
  exact ⟨g, ds, P, Ex, e, h1, h2, hs _ _ _ h3, h4⟩

/-- where code stands: how exceptions are taken, the room -/
structure Cn (X : Cx) (W : WX) (k : Nat) : Prop where
  tk : Takes X W
  po : PassesOwn (model X.prog X.w) X.A X.env X.xe
  hr : Room k X.A
  cm : X.calm = true
  nd : X.N.Nodup
@[simp] def dCall (S : Spec) (ts : DA) : DT := fun ρ P Ex => ts ρ (fun ds => S ds P Ex) Ex
section
variable {X : Cx} {W : WX} {g0 : Gh} {k j : Nat} {S : Spec} {x : Str} {e : Expr} {es : List Expr} {ts : DA} {p pos : Pos}
theorem lift_call {ts : DA} {σ : L2.St} {H : Hp} {Q : VK} (h : lift X.K W g0 (dCall S ts) σ H Q) : tCallS (spD X.K S) (WE W) (liftA X.K W g0 ts) σ H Q := by
  obtain ⟨g, ρ, P, Ex, rfl, s0, e, t, q, x⟩ := h
  refine ⟨g, ρ, _, Ex, rfl, s0, e, t, fun ds hd vs g1 s1 r1 => ?_, x⟩
  exact ⟨g1, ds, P, Ex, rfl, s1.ok, r1, hd, fun d hd v g2 s2 r2 => q d hd v g2 (s1.trans s2) r2, fun c hc g2 s2 => x c hc g2 (s1.trans s2)⟩
theorem de_call (C : Cn X W k) (F : Fn X.prog X.w X.K X.mg X.base j x S) (hj : j ≤ k) (ha : DPA X W g0 (e :: es) ts) (hg : Gl X x := by rfl) (hdb : (x == ("__debug__" : Str)) = false := by decide)
    (he : starEach (e :: es) X.env = (false, eval e X.env) :: starEach es X.env := by rfl) (hpl : (backTo pos (starEach es X.env)).any (·.1) = false := by rfl) : DE X W g0 (.Call (.Name x p) (e :: es) [] pos) (dCall S ts) := by
  obtain ⟨f, fd, ps, F, hm, kp, hb⟩ := F
  exact PE.imp (pe_callS F (C.hr.mono hj) hg hm kp hb (fun σ => passAt C.tk σ) ha hdb he hpl) fun σ H Q h => lift_call h
/-- f() -/
theorem de_call0 (C : Cn X W k) (F : Fn X.prog X.w X.K X.mg X.base j x S) (hj : j ≤ k) (hg : Gl X x := by rfl) (hdb : (x == ("__debug__" : Str)) = false := by decide) : DE X W g0 (.Call (.Name x p) [] [] pos) (dCall S dNil) := by
  obtain ⟨f, fd, ps, F, hm, kp, hb⟩ := F
  refine ⟨fun pins s σ H Q I h => ?_⟩
  obtain ⟨g, ρ, P, Ex, rfl, s0, e, t, q, x⟩ := h
  refine wpAny_Call_Name_kw (ld_glob I hg hm ?_ hdb)
  exact PySem.W.callWith_K0 I.kIn kp (run_fnS (us := []) F (C.hr.mono hj) hb (passAt C.tk σ) I .nil ⟨g, [], P, Ex, rfl, s0.ok, .nil, t, q, x⟩)
end

/-! ### a def by its body -/
@[simp] def startD (n : Nat) (ds : List D) : Rho := ds.map Cell.fz ++ List.replicate (n - ds.length) Cell.un
theorem reps_start {K : PySem.W.Frag} {g : Gh} {N : List Str} {vs : List V} {ds : List D} (r : Reps K g vs ds) : EnvOk K g g (startD N.length ds) (L2.start N vs) := by
  have hl := r.length
  refine ⟨by unfold startD L2.start; rw [List.length_append, List.length_append, List.length_map, List.length_map, List.length_replicate, List.length_replicate, hl], fun i d h => ?_, fun i d h => ?_, fun i j d e p hij h1 h2 => ?_⟩
  · unfold startD at h
    by_cases hi : i < ds.length
    · rw [List.getElem?_append_left (by simpa using hi), List.getElem?_map] at h
      cases q : ds[i]? with
      | none => rw [q] at h; cases h
      | some x =>
        rw [q] at h
        have e : x = d := by simpa using h
        subst e
        obtain ⟨v, h1, h2⟩ := r.get q
        refine ⟨v, ?_, h2⟩
        unfold L2.start
        rw [List.getElem?_append_left (by simp; omega), List.getElem?_map, h1]
        rfl
    · rw [List.getElem?_append_right (by simpa using hi), List.getElem?_replicate] at h
      split at h <;> cases h
  all_goals
    have no : ∀ (i : Nat) (d : D), (startD N.length ds)[i]? ≠ some (.ow d) := fun i d h => by
      unfold startD at h
      by_cases hi : i < ds.length
      · rw [List.getElem?_append_left (by simpa using hi), List.getElem?_map] at h
        cases q : ds[i]? with
        | none => rw [q] at h; cases h
        | some x => rw [q] at h; cases h
      · rw [List.getElem?_append_right (by simpa using hi), List.getElem?_replicate] at h
        split at h <;> cases h
    exact (no _ _ (by assumption)).elim
/-- how a body ends -/
@[simp] abbrev endsOf (P : D → Prop) (Ex : Str → Prop) : EndsD := ⟨fun _ => P .non, P, fun _ => False, fun _ => False, fun _ c => Ex c⟩
/-- the context of a def's body -/
abbrev cxD (P : Program) (w : World) (K : PySem.W.Frag) (mg : Str → Option Value) (base : Heap) (N : List Str) (qual : Str) (scope : Scope) (f : Addr) (cdv : Value) (A : Around) (outer : List PySem.Env) (s : Shared) (H : Hp) (E : XK) : Cx :=
  cxOf (L2.CX P w) P w K mg base N qual scope f cdv A outer s H E
abbrev wxD (E : XK) : WX := fun cls d _ H => E cls d H
theorem fnD {P : Program} {w : World} {K : PySem.W.Frag} {mg : Str → Option Value} {base : Heap} {x qual : Str} {params : Arguments} {body : List Stmt} {scope : Scope} {f : Addr} {fd : FuncData} {N ps : List Str} {k : Nat} {S : Spec} {t : DS}
    (F : FunD K x qual params body scope [] [] f fd) (Sc : FnScope N ps scope)
    (hbody : ∀ (cdv : Value) (A : Around) (outer : List PySem.Env) (s : Shared) (H : Hp) (E : XK) (g0 : Gh), Cn (cxD P w K mg base N qual scope f cdv A outer s H E) (wxD E) k → DPs (cxD P w K mg base N qual scope f cdv A outer s H E) (wxD E) g0 body t)
    (len : ∀ ds Q Ex, S ds Q Ex → ds.length = ps.length) (spec : ∀ ds Q Ex, S ds Q Ex → t (startD N.length ds) (endsOf Q Ex)) : FnOk P w K mg base (L2.CX P w) (k + 1) f fd ps (spD K S) := by
  refine F.ok Sc (fun vs H Q E h => ?_) (fun cdv A outer s H vs Q E hr h => ?_)
  · obtain ⟨g, ds, Pd, Ex, _, _, r, h, _⟩ := h
    exact r.length.trans (len _ _ _ h)
  · obtain ⟨g, ds, Pd, Ex, rfl, hg, r, h, q, x⟩ := h
    have C : Cn (cxD P w K mg base N qual scope f cdv A outer s g.H E) (wxD E) k :=
      ⟨takes_of (X := cxD P w K mg base N qual scope f cdv A outer s g.H E) rfl rfl rfl rfl, passes_of (X := cxD P w K mg base N qual scope f cdv A outer s g.H E) rfl, hr, rfl, Sc.nd⟩
    refine ⟨_, hbody cdv A outer s g.H E g C, g, startD N.length ds, endsOf Pd Ex, rfl, Step.refl hg, reps_start r, spec _ _ _ h, ?_⟩
    exact ⟨fun ρ σ g' s' _ w => q _ w .non g' s' .non, fun d v g' s' r' w => q d w v g' s' r', fun _ _ _ _ _ z => z.elim, fun _ _ _ _ _ z => z.elim, fun ρ c σ g' s' _ w => x c w g' s'⟩
/-- .. as the module's name has it -/
theorem fn_mk {P : Program} {w : World} {K : PySem.W.Frag} {mg : Str → Option Value} {base : Heap} {x y qual : Str} {params : Arguments} {body : List Stmt} {scope : Scope} {f : Addr} {fd : FuncData} {ps : List Str} {k : Nat} {S : Spec}
    (F : FunD K x qual params body scope [] [] f fd) (ok : FnOk P w K mg base (L2.CX P w) k f fd ps (spD K S)) (hm : mg y = some (.ref f))
    (hb : ∀ (kV doc pm : Value) (an : Option Addr) (cdv ct : Value) (us : List Value), us.length = ps.length → bindArgs (PySem.W.fnOf x qual params body scope .none kV doc pm an cdv ct) ⟨us, []⟩ = pure (ps.zip us)) : Fn P w K mg base k y S :=
  ⟨f, fd, ps, ok, hm, F.kp, F.bindsN hb⟩

/-! ### raise -/
/-- X(), X an own exception class without own __init__ -/
theorem pmk_own0 {X : Cx} {C : Addr} {bmB : List Value} {B newId initId : String} {x : Str} {p pos : Pos} (F : ExcBaseFacts B newId initId bmB) (q : PySem.W.excIn X.K C bmB newId = true) (gC : X.mg x = some (.ref C))
    (kC : PySem.W.keepIn X.K (.ref C) = true) (r : Raises X (.ref C)) (hg : Gl X x) (hdb : (x == ("__debug__" : Str)) = false := by decide) :
    PMk X (.Call (.Name x p) [] [] pos) (fun σ H Q => Q (.ref C) none H) := by
  intro pins s σ H Q I h
  refine wpAny_Call_Name_kw (ld_glob I hg gC ?_ hdb)
  refine PySem.W.callWith_K0 I.kIn kC ?_
  obtain ⟨bm, N, nm, qn, bs, hdct, sn, sub, ab, col, dd, k0, k1, k2, k3, k5, mN, hC, hN, hni, T⟩ := exc_obj I.kIn q
  exact wpAny_call_exc_subT F T hC hN hni (fun h' e hm => mk_of I hm r h (I.hok.gone hm.new)) (Nat.zero_le _)
/-- x is an exception class of the text -/
structure XCls (K : PySem.W.Frag) (mg : Str → Option Value) (x : Str) : Prop where
  ok : PySem.W.excIn K (He.ga K x) He.veBase "ValueError.__new__" = true
  gl : mg x = some (.ref (He.ga K x))
  kp : PySem.W.keepIn K (.ref (He.ga K x)) = true
  sb : PySem.W.subIn K (.ref (He.ga K x)) (.type "BaseException") = some true
  ty : PySem.W.typeIn K (.ref (He.ga K x)) = some (.type "type")
@[simp] def dRaise (c : Str) : DS := fun ρ k => k.ex ρ c
section
variable {X : Cx} {W : WX} {g0 : Gh} {k : Nat} {x : Str} {p pos pos' : Pos}
theorem dp_raise (C : Cn X W k) (T : XCls X.K X.mg x) (hg : Gl X x := by rfl) (hdb : (x == ("__debug__" : Str)) = false := by decide) : DP X W g0 (.Raise (some (.Call (.Name x p) [] [] pos)) none pos') (dRaise x) :=
  PS.imp (ps_raise C.cm C.tk (pmk_own0 PySem.F.excBase_ValueError T.ok T.gl T.kp (raises_own T.sb T.ty) hg hdb)) fun E σ H h => by
    obtain ⟨g, ρ, k, rfl, s0, e, t, l⟩ := h
    exact l.ex ρ x σ g s0 e t
end

/-! ### while -/
def whileN (c : DB) (b : DS) : Nat → DS
  | 0 => fun _ _ => False
  | n + 1 => fun ρ k => c ρ (fun v => if v = true then b ρ { k with nx := fun ρ' => whileN c b n ρ' k, ct := fun ρ' => whileN c b n ρ' k, bk := k.nx } else k.nx ρ) (k.ex ρ)
def dWhile (c : DB) (b : DS) : DS := fun ρ k => ∃ n, whileN c b n ρ k
section
variable {X : Cx} {W : WX} {g0 : Gh} {k : Nat} {pos : Pos}
theorem dp_while {c : Expr} {body : List Stmt} {tc : DB} {tb : DS} (C : Cn X W k) (hc : DTt X W g0 c tc) (hb : DPs X W g0 body tb) : DP X W g0 (.While c body [] pos) (dWhile tc tb) :=
  PS.imp (ps_while C.po hc hb) fun E σ H h => by
    obtain ⟨g, ρ, k, rfl, s0, e, ⟨n, t⟩, l⟩ := h
    refine ⟨fun m σ H => ∃ (g : Gh) (ρ : Rho), g.H = H ∧ Step g0 g ∧ EnvOk X.K g0 g ρ σ ∧ whileN tc tb m ρ k, ⟨n, g, ρ, rfl, s0, e, t⟩, ?_⟩
    rintro m σ' H' ⟨g', ρ', rfl, s', e', t'⟩
    cases m with
    | zero => exact t'.elim
    | succ m =>
      refine ⟨g', ρ', _, _, rfl, s', e', t', fun v hv g2 s2 => ?_, l.xok s' e'⟩
      cases v with
      | true =>
        rw [if_pos rfl] at hv ⊢
        refine ⟨fun σ H => ∃ (g : Gh) (ρ : Rho), g.H = H ∧ Step g0 g ∧ EnvOk X.K g0 g ρ σ ∧ whileN tc tb m ρ k, fun σ3 H3 w => ⟨m, Nat.lt_succ_self m, w⟩, g2, ρ', _, rfl, s'.trans s2, e'.step s2, hv, ?_⟩
        exact ⟨fun ρ3 σ3 g3 s3 e3 w3 => ⟨g3, ρ3, rfl, s3, e3, w3⟩, l.rt, l.nx, fun ρ3 σ3 g3 s3 e3 w3 => ⟨g3, ρ3, rfl, s3, e3, w3⟩, l.ex⟩
      | false =>
        rw [if_neg Bool.false_ne_true] at hv ⊢
        exact l.nx _ _ _ (s'.trans s2) (e'.step s2) hv
end

/-! ### for -/
/-- the turns over the items that are left -/
def forN (gt : DG) (b : DS) : List D → DS
  | [] => fun ρ k => k.nx ρ
  | d :: ds => fun ρ k => gt d ρ fun ρ1 => b ρ1 { k with nx := fun ρ' => forN gt b ds ρ' k, ct := fun ρ' => forN gt b ds ρ' k, bk := k.nx }
/-- a list or a tuple is walked -/
theorem pi_seq {X : Cx} {tg l : Expr} {tl : TE} (hl : PE X l tl) : PI X tg l (fun σ H R => tl σ H fun x H1 => ∃ a, x = .ref a ∧ (((∃ xs, SqL X.K H1 a xs) ∧ R (Itl X.K a) H1) ∨ ((∃ xs, SqT X.K H1 a xs) ∧ R (Itt X.K a) H1))) := by
  refine ⟨fun pins s σ H R I h => ?_⟩
  refine thn (hl.run pins s σ H _ I h) fun v s1 ⟨x, H1, I1, r1, q1⟩ => ?_
  obtain ⟨a, e, q1⟩ := q1
  subst e
  cases r1
  rcases q1 with ⟨⟨xs, hq⟩, q⟩ | ⟨⟨xs, hq⟩, q⟩
  · obtain ⟨its, rv, p, hz⟩ := I1.list hq
    refine wpAny_pyIter_list p.isList ?_
    refine ⟨s1.heap.objs.size, [s1.heap.objs.size], _, _, H1, rfl, I1.kept (t' := s1.toks) fun b o e => Heap.get?_push_of_some _ e, turn_list a _, ⟨_, Heap.get?_push_size _ rfl, rfl, rfl⟩, fun b hb => ?_, q⟩
    have e : b = s1.heap.objs.size := by simpa using hb
    subst e
    exact I1.fpOk (Nat.le_refl _) (I1.hok.fresh (Nat.le_refl _))
  · obtain ⟨its, rv, p, hz⟩ := I1.tuple hq
    refine wpAny_pyIter_tuple (show s1.heap.IsTuple a its.toArray from p) ?_
    refine ⟨s1.heap.objs.size, [s1.heap.objs.size], _, _, H1, rfl, I1.kept (t' := s1.toks) fun b o e => Heap.get?_push_of_some _ e, turn_tuple a _, ⟨_, Heap.get?_push_size _ rfl, rfl, rfl⟩, fun b hb => ?_, q⟩
    have e : b = s1.heap.objs.size := by simpa using hb
    subst e
    exact I1.fpOk (Nat.le_refl _) (I1.hok.fresh (Nat.le_refl _))
/-- the base of a loop's body: what is frozen at the loop's start stays -/
abbrev Gh.re (g0 g1 : Gh) : Gh := ⟨g1.G, g1.M, g0.H⟩
theorem Step.re {g0 g1 g : Gh} (s1 : Step g0 g1) (s : Step (g0.re g1) g) : Step g0 g where
  gs := fun a o h => s.gs a o (s1.gs a o h)
  gn := fun a o h => by
    rcases s.gn a o h with q | q | q
    · exact s1.gn a o q
    · exact .inr (.inl q)
    · exact .inr (.inr q)
  ms := fun a h => s.ms a (s1.ms a h)
  mn := fun a h => by
    rcases s.mn a h with q | q
    · exact s1.mn a q
    · exact .inr q
  hs := fun a o h hm => by
    refine s.hs a o h fun z => ?_
    rcases s1.mn a z with q | q
    · exact hm q
    · rw [h] at q; cases q
  ok := s.ok
theorem Step.to {g0 g1 g : Gh} (s1 : Step g0 g1) (s : Step g0 g) (gs : ∀ a o, g1.G a = some o → g.G a = some o) (ms : ∀ a ∈ g1.M, a ∈ g.M) : Step (g0.re g1) g where
  gs := gs
  gn := fun a o h => by
    rcases s.gn a o h with q | q | q
    · exact .inl (s1.gs a o q)
    · exact .inr (.inl q)
    · exact .inr (.inr q)
  ms := ms
  mn := fun a h => by
    rcases s.mn a h with q | q
    · exact .inl (s1.ms a q)
    · exact .inr q
  hs := fun a o h hm => s.hs a o h fun z => hm (s1.ms a z)
  ok := s.ok
theorem EnvOk.re {K : PySem.W.Frag} {g0 g1 g : Gh} {ρ : Rho} {σ : L2.St} (e : EnvOk K g0 g ρ σ) : EnvOk K (g0.re g1) g ρ σ := ⟨e.len, e.fz, fun i d h => let ⟨p, a, o⟩ := e.ow i d h; ⟨p, a, o.n0, o.ng, o.nm, o.at_⟩, e.ap⟩
theorem EnvOk.ofRe {K : PySem.W.Frag} {g0 g1 g : Gh} {ρ : Rho} {σ : L2.St} (e : EnvOk K (g0.re g1) g ρ σ) : EnvOk K g0 g ρ σ := ⟨e.len, e.fz, fun i d h => let ⟨p, a, o⟩ := e.ow i d h; ⟨p, a, o.n0, o.ng, o.nm, o.at_⟩, e.ap⟩
theorem Lk.re {K : PySem.W.Frag} {W : WX} {g0 g1 : Gh} {k : EndsD} {E : Ends} (l : Lk K W g0 k E) (s1 : Step g0 g1) : Lk K W (g0.re g1) k E :=
  ⟨fun ρ σ g s e w => l.nx ρ σ g (s1.re s) e.ofRe w, fun d v g s r w => l.rt d v g (s1.re s) r w, fun ρ σ g s e w => l.bk ρ σ g (s1.re s) e.ofRe w, fun ρ σ g s e w => l.ct ρ σ g (s1.re s) e.ofRe w, fun ρ c σ g s e w => l.ex ρ c σ g (s1.re s) e.ofRe w⟩
/-- what stands ahead of a turn: ds the items that are left -/
def ForI (K : PySem.W.Frag) (gb : Gh) (gt : DG) (b : DS) (ds : List D) (k : EndsD) (σ : L2.St) (H : Hp) : Prop :=
  ∃ (g : Gh) (ρ : Rho), g.H = H ∧ Step gb g ∧ EnvOk K gb g ρ σ ∧ forN gt b ds ρ k
/-- what the iterator J walks, from gb on: things that bear ds -/
def Yields (K : PySem.W.Frag) (J : It) (gb : Gh) (ds : List D) : Prop := ∀ g, Step gb g → ∀ i, (∀ d, ds[i]? = some d → J.go i g.H ∧ ∀ x H', J.yld i g.H x H' → ∃ g', g'.H = H' ∧ Step g g' ∧ Rep K g' x d) ∧ (ds.length ≤ i → J.stop i g.H)
section
variable {X : Cx} {W : WX} {gb : Gh} {k : EndsD} {E : Ends} {gt : DG} {tb : DS}
/-- the whole loop, from its base -/
theorem for_core {J : It} {ds : List D} {g1 : Gh} {ρ : Rho} {σ : L2.St} {sl : List Nat} (l : Lk X.K W gb k E) (y : Yields X.K J gb ds) (s : Step gb g1) (e : EnvOk X.K gb g1 ρ σ) (w : forN gt tb ds ρ k) :
    ∃ Wi : Nat → Nat → L2.St → Hp → Prop, (∃ m, Wi 0 m σ g1.H) ∧ ∀ i m σ H, Wi i m σ H → (J.stop i H ∧ E.nx σ H) ∨ (J.go i H ∧ ∃ N : L2.St → Hp → Prop, (∀ σ' H', N σ' H' → ∃ m', m' < m ∧ Wi (i + 1) m' σ' H') ∧
      ∀ x H', J.yld i H x H' → ∃ gb, liftG X.K gb sl gt x σ H' fun σ2 H2 => ∃ gb, liftS X.K W gb tb { E with nx := N, ct := N, bk := E.nx } σ2 H2) := by
  refine ⟨fun i m σ H => m = ds.length - i ∧ i ≤ ds.length ∧ ForI X.K gb gt tb (ds.drop i) k σ H, ⟨_, rfl, Nat.zero_le _, g1, ρ, rfl, s, e, by rw [List.drop_zero]; exact w⟩, ?_⟩
  rintro i m σ H ⟨rfl, hi, g, ρ, rfl, s, e, w⟩
  obtain ⟨y1, y2⟩ := y g s i
  by_cases hlt : i < ds.length
  · rw [List.drop_eq_getElem_cons hlt] at w
    have hd : ds[i]? = some ds[i] := List.getElem?_eq_getElem hlt
    obtain ⟨go, yl⟩ := y1 _ hd
    refine .inr ⟨go, fun σ H => ForI X.K gb gt tb (ds.drop (i + 1)) k σ H, fun σ' H' f => ⟨_, by omega, rfl, hlt, f⟩, fun x H' hx => ?_⟩
    obtain ⟨g', rfl, s', r'⟩ := yl x H' hx
    refine ⟨gb, g', ρ, _, _, rfl, s.trans s', e.step s', r', w, fun ρ3 σ3 e3 _ w3 => ⟨gb, g', ρ3, _, rfl, s.trans s', e3, w3, ?_⟩⟩
    exact ⟨fun ρ4 σ4 g4 s4 e4 w4 => ⟨g4, ρ4, rfl, s4, e4, w4⟩, l.rt, l.nx, fun ρ4 σ4 g4 s4 e4 w4 => ⟨g4, ρ4, rfl, s4, e4, w4⟩, l.ex⟩
  · have h0 : ds.length ≤ i := Nat.le_of_not_lt hlt
    rw [List.drop_of_length_le h0] at w
    exact .inl ⟨y2 h0, l.nx _ _ _ s e w⟩
end
/-- what is walked, over data -/
abbrev DIt := Rho → (List D → Prop) → (Str → Prop) → Prop
def liftI (K : PySem.W.Frag) (W : WX) (g0 : Gh) (t : DIt) : TI := fun σ H R => ∃ (g : Gh) (ρ : Rho) (P : List D → Prop) (Ex : Str → Prop), g.H = H ∧ Step g0 g ∧ EnvOk K g0 g ρ σ ∧ t ρ P Ex ∧
  (∀ ds, P ds → ∀ J g1, Step g g1 → Yields K J (g0.re g1) ds → R J g1.H) ∧ XOk K W g σ Ex
theorem PI.imp {X : Cx} {tg e : Expr} {t t' : TI} (h : PI X tg e t) (i : ∀ σ H Q, t' σ H Q → t σ H Q) : PI X tg e t' := ⟨fun pins s σ H R I w => h.run pins s σ H R I (i _ _ _ w)⟩
abbrev DI (X : Cx) (W : WX) (g0 : Gh) (tg iter : Expr) (t : DIt) : Prop := PI X tg iter (liftI X.K W g0 t)
/-- a list's or tuple's items -/
@[simp] def seqD (P : List D → Prop) : D → Prop
  | .lst ds => P ds
  | .tup ds => P ds
  | _ => False
@[simp] def iSeq (t : DT) : DIt := fun ρ P Ex => t ρ (seqD P) Ex
theorem yields_lst {K : PySem.W.Frag} {gb : Gh} {a : Addr} {vs : List V} {ds : List D} (ha : gb.G a = some (.lst vs)) (r : ∀ g, Step gb g → Reps K g vs ds) : Yields K (Itl K a) gb ds := fun g s i => by
  have rs := r g s
  have hl : SqL K g.H a vs := SqL.of (s.ok.lst (s.gs _ _ ha))
  refine ⟨fun d hd => ?_, fun h => ⟨vs, hl, by rw [rs.length]; exact h⟩⟩
  obtain ⟨v, hv, rv⟩ := rs.get hd
  refine ⟨⟨vs, v, hl, hv⟩, fun x H' hy => ?_⟩
  obtain ⟨e1, e2⟩ := hy
  have e3 := e2 vs hl
  rw [hv] at e3
  cases e3
  exact ⟨g, e1.symm, Step.refl s.ok, rv⟩
theorem yields_tup {K : PySem.W.Frag} {gb : Gh} {a : Addr} {vs : List V} {ds : List D} (ha : SqT K gb.G a vs) (r : ∀ g, Step gb g → Reps K g vs ds) : Yields K (Itt K a) gb ds := fun g s i => by
  have rs := r g s
  have hl : SqT K g.H a vs := s.ok.sqT (SqT.up ha s.gs)
  refine ⟨fun d hd => ?_, fun h => ⟨vs, hl, by rw [rs.length]; exact h⟩⟩
  obtain ⟨v, hv, rv⟩ := rs.get hd
  refine ⟨⟨vs, v, hl, hv⟩, fun x H' hy => ?_⟩
  obtain ⟨e1, e2⟩ := hy
  have e3 := e2 vs hl
  rw [hv] at e3
  cases e3
  exact ⟨g, e1.symm, Step.refl s.ok, rv⟩
section
variable {X : Cx} {W : WX} {g0 : Gh} {tg iter e : Expr} {t : DT}
theorem di_seq (h : DE X W g0 e t) : DI X W g0 tg e (iSeq t) := PI.imp (pi_seq h) fun σ H R h => by
  obtain ⟨g, ρ, P, Ex, rfl, s0, e, w, q, x⟩ := h
  refine ⟨g, ρ, _, _, rfl, s0, e, w, fun d hd v g1 s1 r1 => ?_, x⟩
  cases r1 with
  | @lst a vs ds ha rs => exact ⟨a, rfl, .inl ⟨⟨vs, SqL.of (s1.ok.lst ha)⟩, q ds hd _ g1 s1 (yields_lst (gb := g0.re g1) ha fun g s => Reps.up (g := g1) s.gs s.ms rs)⟩⟩
  | @tup a vs ds ha rs => exact ⟨a, rfl, .inr ⟨⟨vs, s1.ok.sqT ha⟩, q ds hd _ g1 s1 (yields_tup (gb := g0.re g1) ha fun g s => Reps.up (g := g1) s.gs s.ms rs)⟩⟩
  | _ => exact hd.elim
/-- a text's signs -/
@[simp] def strD (P : List D → Prop) : D → Prop
  | .str z => P (z.cps.toList.map fun c => .str ⟨#[c]⟩)
  | _ => False
@[simp] def iStrD (t : DT) : DIt := fun ρ P Ex => t ρ (strD P) Ex
theorem yields_str {K : PySem.W.Frag} {gb : Gh} (z : Str) : Yields K (Its z) gb (z.cps.toList.map fun c => .str ⟨#[c]⟩) := fun g s i => by
  refine ⟨fun d hd => ?_, fun h => by show z.cps.size ≤ i; simpa using h⟩
  rw [List.getElem?_map] at hd
  cases e : z.cps.toList[i]? with
  | none => rw [e] at hd; cases hd
  | some c =>
    rw [e] at hd
    have ed : D.str ⟨#[c]⟩ = d := Option.some.inj hd
    subst ed
    have hi : i < z.cps.size := by
      have := (List.getElem?_eq_some_iff.mp e).1
      simpa using this
    refine ⟨hi, fun x H' hy => ?_⟩
    obtain ⟨e1, c', e2, e3⟩ := hy
    have e4 : c' = c := by
      have : z.cps.toList[i]? = some c' := by rw [← e2]; simp
      rw [e] at this
      exact (Option.some.inj this).symm
    subst e3 e4
    exact ⟨g, e1.symm, Step.refl s.ok, .str _⟩
theorem di_str (h : DE X W g0 e t) : DI X W g0 tg e (iStrD t) := PI.imp (pi_str h) fun σ H R h => by
  obtain ⟨g, ρ, P, Ex, rfl, s0, e, w, q, x⟩ := h
  refine ⟨g, ρ, _, _, rfl, s0, e, w, fun d hd v g1 s1 r1 => ?_, x⟩
  cases r1 with
  | str z => exact ⟨z, rfl, q _ hd _ g1 s1 (yields_str z)⟩
  | _ => exact hd.elim
/-- lo, lo + 1, .. n of them -/
def rangeD (lo : Int) (n : Nat) : List D := (List.range n).map fun i => .int (lo + (i : Nat))
theorem yields_range {K : PySem.W.Frag} {gb : Gh} (lo : Int) (n : Nat) : Yields K (Itr lo n) gb (rangeD lo n) := fun g s i => by
  unfold rangeD
  refine ⟨fun d hd => ?_, fun h => by show n ≤ i; simpa using h⟩
  have hi : i < n := by
    have := (List.getElem?_eq_some_iff.mp hd).1
    simpa using this
  rw [List.getElem?_map, List.getElem?_range hi] at hd
  have ed := Option.some.inj hd
  refine ⟨hi, fun x H' hy => ?_⟩
  obtain ⟨e1, e2⟩ := hy
  subst e2
  rw [← ed]
  exact ⟨g, e1.symm, Step.refl s.ok, .int _⟩
@[simp] def iRange1 (ts : DA) : DIt := fun ρ P Ex => ts ρ (fun ds => match ds with
  | [.int j] => -(2 ^ 62) ≤ j ∧ j < 2 ^ 62 ∧ P (rangeD 0 j.toNat)
  | _ => False) Ex
@[simp] def iRange2 (ts : DA) : DIt := fun ρ P Ex => ts ρ (fun ds => match ds with
  | [.int i, .int j] => (-(2 ^ 62) ≤ i ∧ i < 2 ^ 62 ∧ -(2 ^ 62) ≤ j ∧ j < 2 ^ 62) ∧ P (rangeD i (j - i).toNat)
  | _ => False) Ex
theorem di_range1 {a : Expr} {ts : DA} {p pos : Pos} (hm : X.mg "range" = none) (ha : DPA X W g0 [a] ts) (hg : Gl X "range" := by rfl) (hs : starEach [a] X.env = [(false, eval a X.env)] := by rfl) : DI X W g0 tg (.Call (.Name "range" p) [a] [] pos) (iRange1 ts) :=
  PI.imp (pi_range1 hg hm ha hs) fun σ H R h => by
    obtain ⟨g, ρ, P, Ex, rfl, s0, e, w, q, x⟩ := h
    refine ⟨g, ρ, _, _, rfl, s0, e, w, fun ds hd vs g1 s1 r1 => ?_, x⟩
    split at hd
    · rename_i j
      cases r1 with
      | cons r rs => cases rs; cases r; exact ⟨j, rfl, hd.1, hd.2.1, q _ hd.2.2 _ g1 s1 (yields_range 0 _)⟩
    · exact hd.elim
theorem di_range2 {a b : Expr} {ts : DA} {p pos : Pos} (hm : X.mg "range" = none) (ha : DPA X W g0 [a, b] ts) (hg : Gl X "range" := by rfl) (hs : starEach [a, b] X.env = [(false, eval a X.env), (false, eval b X.env)] := by rfl) (hs2 : starEach [b] X.env = [(false, eval b X.env)] := by rfl) :
    DI X W g0 tg (.Call (.Name "range" p) [a, b] [] pos) (iRange2 ts) :=
  PI.imp (pi_range2 hg hm ha hs hs2) fun σ H R h => by
    obtain ⟨g, ρ, P, Ex, rfl, s0, e, w, q, x⟩ := h
    refine ⟨g, ρ, _, _, rfl, s0, e, w, fun ds hd vs g1 s1 r1 => ?_, x⟩
    split at hd
    · rename_i i j
      cases r1 with
      | cons r rs => cases rs with
        | cons r' rs => cases rs; cases r; cases r'; exact ⟨i, j, rfl, hd.1, q _ hd.2 _ g1 s1 (yields_range i _)⟩
    · exact hd.elim
@[simp] def dFor (t : DIt) (gt : DG) (b : DS) : DS := fun ρ k => t ρ (fun ds => forN gt b ds ρ k) (k.ex ρ)
theorem dp_for {sl : List Nat} {k : Nat} {pos : Pos} {body : List Stmt} {t : DIt} {gt : DG} {tb : DS} (C : Cn X W k) (hi : DI X W g0 tg iter t) (hg : ∀ g0, DPG X g0 sl tg gt) (hb : ∀ g0, DPs X W g0 body tb) (hs : ∀ x, foldedSetIterable iter X.env x = pure x := by intro _; rfl) :
    DP X W g0 (.For tg iter body [] pos) (dFor t gt tb) := by
  refine ⟨fun pins s σ H E I h => ?_⟩
  obtain ⟨g, ρ, k, rfl, s0, e, w, l⟩ := h
  refine (ps_for (g := fun v σ H Q => ∃ gb, liftG X.K gb sl gt v σ H Q) (tb := fun D σ H => ∃ gb, liftS X.K W gb tb D σ H) C.po C.cm hi
    ⟨fun pins s σ H v u Q I r ⟨gb, w⟩ => (hg gb).run pins s σ H v u Q I r w⟩ ⟨fun pins s σ H D I ⟨gb, w⟩ => (hb gb).run pins s σ H D I w⟩ hs).run pins s σ g.H E I ?_
  refine ⟨g, ρ, _, _, rfl, s0, e, w, fun ds hd J g1 s1 y1 => ?_, l.xok s0 e⟩
  have s01 := s0.trans s1
  exact for_core (l.re s01) y1 (s01.to s01 (fun _ _ h => h) fun _ h => h) (e.step s1).re hd
end
end AU

/-! AuOps: operators, comparisons, subscripts, slices, built-ins, over data. -/
namespace AU
open PySem L2 PySem.Spec PyProof.Rows

/-! ### arithmetic, + of texts, tuples, lists -/
@[simp] def fAdd : D → D → (D → Prop) → Prop
  | .int i, .int j, P => P (.int (i + j))
  | .str x, .str y, P => x.length + y.length ≤ 16777216 ∧ P (.str (x ++ y))
  | .tup a, .tup b, P => a.length + b.length ≤ 16777216 ∧ P (.tup (a ++ b))
  | .lst a, .lst b, P => a.length + b.length ≤ 16777216 ∧ P (.lst (a ++ b))
  | _, _, _ => False
@[simp] def fSub : D → D → (D → Prop) → Prop
  | .int i, .int j, P => P (.int (i - j))
  | _, _, _ => False
@[simp] def fMul : D → D → (D → Prop) → Prop
  | .int i, .int j, P => IntMulOk i j ∧ P (.int (i * j))
  | _, _, _ => False
/-- // by a divisor that is not 0, below 2 ^ 9000 -/
@[simp] def fDiv : D → D → (D → Prop) → Prop
  | .int i, .int j, P => j ≠ 0 ∧ j.natAbs.log2 < 9000 ∧ P (.int (i.fdiv j))
  | _, _, _ => False
@[simp] def fMod : D → D → (D → Prop) → Prop
  | .int i, .int j, P => j ≠ 0 ∧ P (.int (i.fmod j))
  | _, _, _ => False
section
variable {K : PySem.W.Frag} {X : Cx}
theorem rel_add : Rel2 K (fun x y H Q => (rI0 (fun i j => .int (i + j))) x y H Q ∨ ((fun x y H Q => ∃ i j, x = V.str i ∧ y = V.str j ∧ i.length + j.length ≤ sizeLine ∧ Q (.str (i ++ j)) H) : R2) x y H Q ∨ rCatA K x y H Q ∨ rCat x y H Q) fAdd := by
  intro g0 g x y a b P Q s rx ry w q
  have r0 := Step.refl s.ok
  cases rx with
  | int i => cases ry with
    | int j => exact .inl ⟨i, j, rfl, rfl, q _ w _ g r0 (.int _)⟩
    | _ => exact w.elim
  | str i => cases ry with
    | str j => exact .inr (.inl ⟨i, j, rfl, rfl, by rw [sizeLine_eq]; exact w.1, q _ w.2 _ g r0 (.str _)⟩)
    | _ => exact w.elim
  | @tup a va da ha ra => cases ry with
    | @tup b vb db hb rb =>
      refine .inr (.inr (.inl ⟨a, b, va, vb, rfl, rfl, s.ok.sqT ha, s.ok.sqT hb, by rw [sizeLine_eq, ra.length, rb.length]; exact w.1, fun e => ?_, fun _ e => ?_, fun _ _ p hp => ?_⟩))
      · subst e; cases ra
        exact q _ w.2 _ g r0 (.tup hb rb)
      · subst e; cases rb
        exact q _ w.2 _ g r0 (by rw [List.append_nil]; exact .tup ha ra)
      · obtain ⟨s2, r2⟩ := newTup s.ok hp (ra.append rb)
        exact q _ w.2 _ _ s2 r2
    | _ => exact w.elim
  | @lst a va da ha ra => cases ry with
    | @lst b vb db hb rb =>
      refine .inr (.inr (.inr ⟨a, b, va, vb, rfl, rfl, s.ok.lst ha, s.ok.lst hb, by rw [sizeLine_eq, ra.length, rb.length]; exact w.1, fun p hp => ?_⟩))
      obtain ⟨s2, r2⟩ := newLst s.ok hp (ra.append rb)
      exact q _ w.2 _ _ s2 r2
    | _ => exact w.elim
  | _ => cases ry <;> exact w.elim
theorem opr_add : OpR X (binaryOp .Add) (fun x y H Q => (rI0 (fun i j => .int (i + j))) x y H Q ∨ ((fun x y H Q => ∃ i j, x = V.str i ∧ y = V.str j ∧ i.length + j.length ≤ sizeLine ∧ Q (.str (i ++ j)) H) : R2) x y H Q ∨ rCatA X.K x y H Q ∨ rCat x y H Q) :=
  op_add.or (op_add_str.or (op_catA.or op_cat))
theorem rel_sub : Rel2 K (rI0 fun i j => .int (i - j)) fSub := by
  intro g0 g x y a b P Q s rx ry w q
  cases rx with
  | int i => cases ry with
    | int j => exact ⟨i, j, rfl, rfl, q _ w _ g (Step.refl s.ok) (.int _)⟩
    | _ => exact w.elim
  | _ => cases ry <;> exact w.elim
theorem opr_mul : OpR X (binaryOp .Mult) (rI IntMulOk fun i j => .int (i * j)) := opI fun _ _ _ _ _ _ _ hc q => mul_int q hc
theorem rel_mul : Rel2 K (rI IntMulOk fun i j => .int (i * j)) fMul := by
  intro g0 g x y a b P Q s rx ry w q
  cases rx with
  | int i => cases ry with
    | int j => exact ⟨i, j, rfl, rfl, w.1, q _ w.2 _ g (Step.refl s.ok) (.int _)⟩
    | _ => exact w.elim
  | _ => cases ry <;> exact w.elim
theorem opr_div : OpR X (binaryOp .FloorDiv) (rI (fun _ j => j ≠ 0 ∧ j.natAbs.log2 < 9000) fun i j => .int (i.fdiv j)) := opI fun _ _ _ _ _ _ _ hc q => floordiv_int hc.1 q (.inl (PyProof.noPylong_of_log2 hc.2))
theorem rel_div : Rel2 K (rI (fun _ j => j ≠ 0 ∧ j.natAbs.log2 < 9000) fun i j => .int (i.fdiv j)) fDiv := by
  intro g0 g x y a b P Q s rx ry w q
  cases rx with
  | int i => cases ry with
    | int j => exact ⟨i, j, rfl, rfl, ⟨w.1, w.2.1⟩, q _ w.2.2 _ g (Step.refl s.ok) (.int _)⟩
    | _ => exact w.elim
  | _ => cases ry <;> exact w.elim
theorem rel_mod : Rel2 K (rI (fun _ j => j ≠ 0) fun i j => .int (i.fmod j)) fMod := by
  intro g0 g x y a b P Q s rx ry w q
  cases rx with
  | int i => cases ry with
    | int j => exact ⟨i, j, rfl, rfl, w.1, q _ w.2 _ g (Step.refl s.ok) (.int _)⟩
    | _ => exact w.elim
  | _ => cases ry <;> exact w.elim

/-! ### comparisons -/
mutual
def deq : D → D → Bool
  | .non, .non => true
  | .bl a, .bl b => a == b
  | .bl a, .int b => (if a then 1 else 0) == b
  | .int a, .bl b => a == (if b then 1 else 0)
  | .int a, .int b => a == b
  | .str a, .str b => a == b
  | .tup a, .tup b => deqs a b
  | .lst a, .lst b => deqs a b
  | _, _ => false
def deqs : List D → List D → Bool
  | [], [] => true
  | a :: as, b :: bs => deq a b && deqs as bs
  | _, _ => false
end
mutual
/-- data that == is told of: None, truth values, numbers, texts, tuples and lists of these -/
def lay : D → Bool
  | .non => true
  | .bl _ => true
  | .int _ => true
  | .str x => PyData.strOk x
  | .tup a => lays a
  | .lst a => lays a
  | _ => false
def lays : List D → Bool
  | [] => true
  | a :: as => lay a && lays as
end
mutual
def dep : D → Nat
  | .tup a => deps a + 1
  | .lst a => deps a + 1
  | _ => 0
def deps : List D → Nat
  | [] => 0
  | a :: as => max (dep a) (deps as)
end
mutual
def py : D → PyData
  | .non => .none
  | .bl b => .bool b
  | .int i => .int i
  | .str x => .str x
  | .tup a => .tuple (pys a)
  | .lst a => .list (pys a)
  | _ => .none
def pys : List D → List PyData
  | [] => []
  | a :: as => py a :: pys as
end
mutual
theorem py_eqv : ∀ (a b : D), lay a = true → lay b = true → PyData.eqv (py a) (py b) = deq a b
  | .non, b, _, h => by cases b <;> first | rfl | cases h
  | .bl _, b, _, h => by cases b <;> first | rfl | cases h
  | .int _, b, _, h => by cases b <;> first | rfl | cases h
  | .str _, b, _, h => by cases b <;> first | rfl | cases h
  | .tup a, b, h1, h => by
    cases b with
    | tup b => exact py_eqvs a b h1 h
    | _ => first | rfl | cases h
  | .lst a, b, h1, h => by
    cases b with
    | lst b => exact py_eqvs a b h1 h
    | _ => first | rfl | cases h
  | .dS _, _, h, _ => by cases h
  | .dT _, _, h, _ => by cases h
  | .ch _ _, _, h, _ => by cases h
  | .drw, _, h, _ => by cases h
  | .scr _, _, h, _ => by cases h
theorem py_eqvs : ∀ (a b : List D), lays a = true → lays b = true → PyData.eqvAll (pys a) (pys b) = deqs a b
  | [], [], _, _ => rfl
  | [], _ :: _, _, _ => rfl
  | _ :: _, [], _, _ => rfl
  | a :: as, b :: bs, h1, h2 => by
    have h1' : (lay a && lays as) = true := h1
    have h2' : (lay b && lays bs) = true := h2
    rw [Bool.and_eq_true] at h1' h2'
    show (PyData.eqv (py a) (py b) && PyData.eqvAll (pys as) (pys bs)) = (deq a b && deqs as bs)
    rw [py_eqv a b h1'.1 h2'.1, py_eqvs as bs h1'.2 h2'.2]
end
mutual
theorem py_lay : ∀ (a : D), lay a = true → PyData.canLay0 (py a) = true
  | .non, _ => rfl
  | .bl _, _ => rfl
  | .int _, _ => rfl
  | .str _, h => h
  | .tup a, h => py_lays a h
  | .lst a, h => py_lays a h
  | .dS _, h => by cases h
  | .dT _, h => by cases h
  | .ch _ _, h => by cases h
  | .drw, h => by cases h
  | .scr _, h => by cases h
theorem py_lays : ∀ (a : List D), lays a = true → PyData.canLayAll0 (pys a) = true
  | [], _ => rfl
  | a :: as, h => by
    have h' : (lay a && lays as) = true := h
    rw [Bool.and_eq_true] at h'
    show (PyData.canLay0 (py a) && PyData.canLayAll0 (pys as)) = true
    rw [py_lay a h'.1, py_lays as h'.2]
    rfl
end
mutual
theorem py_dep : ∀ (a : D), lay a = true → PyData.depth (py a) = dep a
  | .non, _ => rfl
  | .bl _, _ => rfl
  | .int _, _ => rfl
  | .str _, _ => rfl
  | .tup a, h => by show PyData.depthAll (pys a) + 1 = deps a + 1; rw [py_deps a h]
  | .lst a, h => by show PyData.depthAll (pys a) + 1 = deps a + 1; rw [py_deps a h]
  | .dS _, h => by cases h
  | .dT _, h => by cases h
  | .ch _ _, h => by cases h
  | .drw, h => by cases h
  | .scr _, h => by cases h
theorem py_deps : ∀ (a : List D), lays a = true → PyData.depthAll (pys a) = deps a
  | [], _ => rfl
  | a :: as, h => by
    have h' : (lay a && lays as) = true := h
    rw [Bool.and_eq_true] at h'
    show max (PyData.depth (py a)) (PyData.depthAll (pys as)) = max (dep a) (deps as)
    rw [py_dep a h'.1, py_deps as h'.2]
end
mutual
theorem rep_dp {g : Gh} (h : Hold g) : ∀ {v : V} {a : D}, Rep K g v a → lay a = true → Dp K g.H v (py a)
  | _, _, .non, _ => .non
  | _, _, .bl b, _ => .bl b
  | _, _, .int i, _ => .int i
  | _, _, .str x, _ => .str x
  | _, _, .tup ha r, l => .tup (h.sqT ha) (reps_dp h r l)
  | _, _, .lst ha r, l => .lst (SqL.of (h.lst ha)) (reps_dp h r l)
  | _, _, .dS _ _, l => by cases l
  | _, _, .dT _ _, l => by cases l
  | _, _, .ch _ _ _, l => by cases l
  | _, _, .drw _, l => by cases l
  | _, _, .scr _ _, l => by cases l
theorem reps_dp {g : Gh} (h : Hold g) : ∀ {v : List V} {a : List D}, Reps K g v a → lays a = true → DpAll K g.H v (pys a)
  | _, _, .nil, _ => .nil
  | _, _, .cons (d := d) (ds := ds) r rs, l => by
    have h' : (lay d && lays ds) = true := l
    rw [Bool.and_eq_true] at h'
    exact .cons (rep_dp h r h'.1) (reps_dp h rs h'.2)
end
/-- data that may stand on either side of == -/
def eqOk (a : D) : Prop := lay a = true ∧ dep a ≤ 64
@[simp] def fEqB (n : Bool) : D → D → (D → Prop) → Prop
  | .int i, .int j, P => P (.bl (n ^^ decide (i = j)))
  | .str x, .str y, P => P (.bl (n ^^ decide (x = y)))
  | .bl x, .bl y, P => P (.bl (n ^^ decide (x = y)))
  | .non, .non, P => P (.bl (n ^^ true))
  | .non, .str _, P => P (.bl n)
  | .str _, .non, P => P (.bl n)
  | a, b, P => eqOk a ∧ eqOk b ∧ P (.bl (n ^^ deq a b))
@[simp] def fEq := fEqB false
@[simp] def fNe := fEqB true
theorem shaped_of {a : D} (h : eqOk a) : SeqAt.shaped (py a) = true := by
  unfold SeqAt.shaped
  rw [py_lay a h.1, py_dep a h.1]
  simpa using h.2
theorem rel_eqB (n : Bool) : Rel2 K (fun x y H Q => (scal x y = true ∧ Q (.bl (n ^^ decide (x = y))) H) ∨ ∃ d e, Dp K H x d ∧ Dp K H y e ∧ SeqAt.shaped d = true ∧ SeqAt.shaped e = true ∧ Q (.bl (n ^^ PyData.eqv d e)) H) (fEqB n) := by
  intro g0 g x y a b P Q s rx ry w q
  have r0 := Step.refl s.ok
  have big : eqOk a ∧ eqOk b ∧ P (.bl (n ^^ deq a b)) → (scal x y = true ∧ Q (.bl (n ^^ decide (x = y))) g.H) ∨ ∃ d e, Dp K g.H x d ∧ Dp K g.H y e ∧ SeqAt.shaped d = true ∧ SeqAt.shaped e = true ∧ Q (.bl (n ^^ PyData.eqv d e)) g.H := fun ⟨h1, h2, h3⟩ =>
    .inr ⟨py a, py b, rep_dp s.ok rx h1.1, rep_dp s.ok ry h2.1, shaped_of h1, shaped_of h2, by rw [py_eqv a b h1.1 h2.1]; exact q _ h3 _ g r0 (.bl _)⟩
  cases rx with
  | non => cases ry with
    | non => exact .inl ⟨rfl, by simpa using q _ w _ g r0 (.bl _)⟩
    | str y => exact .inl ⟨rfl, by simpa using q _ w _ g r0 (.bl _)⟩
    | _ => exact big w
  | bl i => cases ry with
    | bl j =>
      have e : decide (V.bl i = V.bl j) = decide (i = j) := by by_cases h : i = j <;> simp [h]
      exact .inl ⟨rfl, by rw [e]; exact q _ w _ g r0 (.bl _)⟩
    | _ => exact big w
  | int i => cases ry with
    | int j =>
      have e : decide (V.int i = V.int j) = decide (i = j) := by by_cases h : i = j <;> simp [h]
      exact .inl ⟨rfl, by rw [e]; exact q _ w _ g r0 (.bl _)⟩
    | _ => exact big w
  | str i => cases ry with
    | str j =>
      have e : decide (V.str i = V.str j) = decide (i = j) := by by_cases h : i = j <;> simp [h]
      exact .inl ⟨rfl, by rw [e]; exact q _ w _ g r0 (.bl _)⟩
    | non => exact .inl ⟨rfl, by simpa using q _ w _ g r0 (.bl _)⟩
    | _ => exact big w
  | _ => cases ry <;> exact big w
theorem opr_eq {k : Nat} {W : WX} (C : Cn X W k) : OpR X (compareOp .Eq) (fun x y H Q => (scal x y = true ∧ Q (.bl (false ^^ decide (x = y))) H) ∨ ∃ d e, Dp X.K H x d ∧ Dp X.K H y e ∧ SeqAt.shaped d = true ∧ SeqAt.shaped e = true ∧ Q (.bl (false ^^ PyData.eqv d e)) H) := by
  intro pins s σ H x y v u Q I rx ry h
  rcases h with ⟨h1, h2⟩ | ⟨d, e, h1, h2, h3, h4, h5⟩
  · exact op_eq pins s σ H x y v u Q I rx ry ⟨h1, by simpa using h2⟩
  · exact op_eqD C.hr.units pins s σ H x y v u Q I rx ry ⟨d, e, h1, h2, h3, h4, by simpa using h5⟩
theorem opr_ne {k : Nat} {W : WX} (C : Cn X W k) : OpR X (compareOp .NotEq) (fun x y H Q => (scal x y = true ∧ Q (.bl (true ^^ decide (x = y))) H) ∨ ∃ d e, Dp X.K H x d ∧ Dp X.K H y e ∧ SeqAt.shaped d = true ∧ SeqAt.shaped e = true ∧ Q (.bl (true ^^ PyData.eqv d e)) H) := by
  intro pins s σ H x y v u Q I rx ry h
  rcases h with ⟨h1, h2⟩ | ⟨d, e, h1, h2, h3, h4, h5⟩
  · exact op_ne pins s σ H x y v u Q I rx ry ⟨h1, by simpa using h2⟩
  · exact op_neD C.hr.units pins s σ H x y v u Q I rx ry ⟨d, e, h1, h2, h3, h4, by simpa using h5⟩
/-- comparisons of numbers -/
@[simp] def fCmp (p : Int → Int → Bool) : D → D → (D → Prop) → Prop
  | .int i, .int j, P => P (.bl (p i j))
  | _, _, _ => False
@[simp] def fLt := fCmp fun i j => decide (i < j)
@[simp] def fLe := fCmp fun i j => decide (i ≤ j)
@[simp] def fGt := fCmp fun i j => decide (j < i)
@[simp] def fGe := fCmp fun i j => decide (j ≤ i)
theorem rel_cmp (p : Int → Int → Bool) : Rel2 K (rI0 fun i j => .bl (p i j)) (fCmp p) := by
  intro g0 g x y a b P Q s rx ry w q
  cases rx with
  | int i => cases ry with
    | int j => exact ⟨i, j, rfl, rfl, q _ w _ g (Step.refl s.ok) (.bl _)⟩
    | _ => exact w.elim
  | _ => cases ry <;> exact w.elim
/-- is None -/
@[simp] def isNon : D → Bool
  | .non => true
  | _ => false
@[simp] def fIsB (n : Bool) : D → D → (D → Prop) → Prop := fun a b P => match b with
  | .non => P (.bl (n ^^ isNon a))
  | _ => False
@[simp] def fIs := fIsB false
@[simp] def fIsNot := fIsB true
theorem rel_is : Rel2 K (fun x y H Q => y = .non ∧ Q (.bl (decide (x = .non))) H) fIs := by
  intro g0 g x y a b P Q s rx ry w q
  cases ry with
  | non =>
    refine ⟨rfl, ?_⟩
    have w' : P (.bl (false ^^ isNon a)) := w
    have e : decide (x = V.non) = (false ^^ isNon a) := by cases rx <;> first | rfl | simp [isNon]
    rw [e]
    exact q _ w' _ g (Step.refl s.ok) (.bl _)
  | _ => exact w.elim
theorem rel_isnot : Rel2 K (fun x y H Q => y = .non ∧ Q (.bl (!decide (x = .non))) H) fIsNot := by
  intro g0 g x y a b P Q s rx ry w q
  cases ry with
  | non =>
    refine ⟨rfl, ?_⟩
    have w' : P (.bl (true ^^ isNon a)) := w
    have e : (!decide (x = V.non)) = (true ^^ isNon a) := by cases rx <;> first | rfl | simp [isNon]
    rw [e]
    exact q _ w' _ g (Step.refl s.ok) (.bl _)
  | _ => exact w.elim
end
end AU

/-! AuOps2: in, truth, subscripts, slices, built-ins, f-strings, over data. -/
namespace AU
open PySem L2 PySem.Spec PyProof.Rows

/-- the built-in names that no def of the text hides -/
def biN : List Str := ["isinstance", "len", "all", "sum", "max", "abs", "int", "list", "tuple", "sorted", "set", "dict", "range", "zip", "enumerate", "str", "bool"]
def Bi (mg : Str → Option Value) : Prop := ∀ x ∈ biN, mg x = none
theorem Bi.at_ {mg : Str → Option Value} (B : Bi mg) (x : Str) (h : x ∈ biN := by decide +kernel) : mg x = none := B x h

/-! ### in -/
/-- what is told apart without looking inside -/
@[simp] def flat : D → Bool
  | .non => true
  | .bl _ => true
  | .int _ => true
  | .str _ => true
  | _ => false
/-- a text of one sign -/
def sign? (x : Str) : Option Nat := match x.cps.toList with
  | [c] => some c
  | _ => none
def inL (a : D) (ds : List D) : Bool := ds.any fun d => deq d a
@[simp] def fInB (n : Bool) : D → D → (D → Prop) → Prop
  | .str x, .str z, P => ∃ c, sign? x = some c ∧ P (.bl (n ^^ decide (c ∈ z.cps.toList)))
  | a, .tup ds, P => flat a = true ∧ ds.all flat = true ∧ P (.bl (n ^^ inL a ds))
  | a, .lst ds, P => flat a = true ∧ ds.all flat = true ∧ P (.bl (n ^^ inL a ds))
  | _, _, _ => False
@[simp] def fIn := fInB false
@[simp] def fNotIn := fInB true
section
variable {K : PySem.W.Frag} {X : Cx} {g : Gh}
theorem flat_rep {v : V} {a : D} (r : Rep K g v a) (h : flat a = true) : flatV v = true := by
  cases r <;> first | rfl | cases h
theorem eqV_rep {v w : V} {a b : D} (r : Rep K g v a) (q : Rep K g w b) (h : flat a = true) (h2 : flat b = true) : eqV v w = deq a b := by
  cases r <;> cases q <;> first | rfl | (cases h2; done) | (cases h; done)
theorem inV_rep {v : V} {a : D} (r : Rep K g v a) (h : flat a = true) : ∀ {vs : List V} {ds : List D}, Reps K g vs ds → ds.all flat = true → inV v vs = inL a ds ∧ vs.all flatV = true
  | _, _, .nil, _ => ⟨rfl, rfl⟩
  | _, _, .cons (v := w) (d := d) (vs := vs) (ds := ds) q t, h2 => by
    rw [List.all_cons, Bool.and_eq_true] at h2
    obtain ⟨i1, i2⟩ := inV_rep r h t h2.2
    refine ⟨?_, by rw [List.all_cons, flat_rep q h2.1, i2]; rfl⟩
    show (eqV w v || inV v vs) = (deq d a || inL a ds)
    rw [eqV_rep q r h2.1 h, i1]
theorem sign_eq {x : Str} {c : Nat} (h : sign? x = some c) : x = ⟨#[c]⟩ := by
  obtain ⟨⟨l⟩⟩ := x
  cases l with
  | nil => cases h
  | cons a l =>
    cases l with
    | nil =>
      have e : a = c := by
        have h' : some a = some c := h
        exact Option.some.inj h'
      rw [e]
    | cons b l => cases h
abbrev rSign (n : Bool) : R2 := fun x y H Q => ∃ (c : Nat) (z : Str), x = .str ⟨#[c]⟩ ∧ y = .str z ∧ Q (.bl (n ^^ decide (c ∈ z.cps.toList))) H
theorem rel_inB (n : Bool) : Rel2 K (fun x y H Q => rSign n x y H Q ∨ rIn K n x y H Q) (fInB n) := by
  intro g0 g x y a b P Q s rx ry w q
  have r0 := Step.refl s.ok
  have bx : ∀ (b : Bool), (if n = true then !b else b) = (n ^^ b) := fun b => by cases n <;> cases b <;> rfl
  have seq : ∀ {p : Addr} {vs : List V} {ds : List D}, Reps K g vs ds → (SqL K g.H p vs ∨ SqT K g.H p vs) → flat a = true → ds.all flat = true → P (.bl (n ^^ inL a ds)) → rIn K n x (.ref p) g.H Q := fun {p vs ds} rs hs h1 h2 h3 => by
    obtain ⟨i1, i2⟩ := inV_rep rx h1 rs h2
    refine ⟨p, vs, rfl, hs, flat_rep rx h1, i2, ?_⟩
    rw [bx, i1]
    exact q _ h3 _ g r0 (.bl _)
  cases ry with
  | @tup p vs ds hp rs =>
    have w' : flat a = true ∧ ds.all flat = true ∧ P (.bl (n ^^ inL a ds)) := by cases a <;> exact w
    exact .inr (seq rs (.inr (s.ok.sqT hp)) w'.1 w'.2.1 w'.2.2)
  | @lst p vs ds hp rs =>
    have w' : flat a = true ∧ ds.all flat = true ∧ P (.bl (n ^^ inL a ds)) := by cases a <;> exact w
    exact .inr (seq rs (.inl (SqL.of (s.ok.lst hp))) w'.1 w'.2.1 w'.2.2)
  | str z =>
    cases rx with
    | str x =>
      obtain ⟨c, h1, h2⟩ := w
      exact .inl ⟨c, z, by rw [sign_eq h1], rfl, q _ h2 _ g r0 (.bl _)⟩
    | _ => exact w.elim
  | _ => cases a <;> exact w.elim
theorem opr_in : OpR X (compareOp .In) (fun x y H Q => rSign false x y H Q ∨ rIn X.K false x y H Q) := OpR.or (fun pins s σ H x y v u Q I rx ry ⟨c, z, h1, h2, h3⟩ => op_in_sign pins s σ H x y v u Q I rx ry ⟨c, z, h1, h2, by simpa using h3⟩) op_in_seq
theorem opr_notin : OpR X (compareOp .NotIn) (fun x y H Q => rSign true x y H Q ∨ rIn X.K true x y H Q) := OpR.or (fun pins s σ H x y v u Q I rx ry ⟨c, z, h1, h2, h3⟩ => op_notIn_sign pins s σ H x y v u Q I rx ry ⟨c, z, h1, h2, by simpa using h3⟩) op_notIn_seq

/-! ### truth -/
@[simp] def tru : D → (Bool → Prop) → Prop
  | .non, P => P false
  | .bl b, P => P b
  | .int i, P => P (i != 0)
  | .str x, P => x.length ≤ 16777216 ∧ P ((x.length : Int) != 0)
  | .tup ds, P => P (!ds.isEmpty)
  | .lst ds, P => P (!ds.isEmpty)
  | _, _ => False
@[simp] def dTru (t : DT) : DB := fun ρ P Ex => t ρ (fun d => tru d P) Ex
theorem reps_empty {vs : List V} {ds : List D} (r : Reps K g vs ds) : vs.isEmpty = ds.isEmpty := by cases r <;> rfl
theorem dt_tru {W : WX} {g0 : Gh} {e : Expr} {t : DT} (h : DE X W g0 e t) (he : ∀ whole, isTrue e X.env whole = (do let v ← whole; standAt e.pos; holding [v] (truthy v)) := by intro _; rfl) : DTt X W g0 e (dTru t) :=
  PT.imp (pt_truth h he) fun σ H Q h => by
    obtain ⟨g, ρ, P, Ex, rfl, s0, e, t, q, x⟩ := h
    refine ⟨g, ρ, _, Ex, rfl, s0, e, t, fun d hd v g1 s1 r1 => ?_, x⟩
    cases r1 with
    | non => exact ⟨false, rfl, q _ hd g1 s1⟩
    | bl b => exact ⟨b, rfl, q _ hd g1 s1⟩
    | int i => exact ⟨_, rfl, q _ hd g1 s1⟩
    | str z => exact ⟨_, ⟨by rw [sizeLine_eq]; exact hd.1, rfl⟩, q _ hd.2 g1 s1⟩
    | @tup p vs ds hp rs => exact ⟨!vs.isEmpty, .inr (.inl ⟨vs, s1.ok.sqT hp, rfl⟩), by rw [reps_empty rs]; exact q _ hd g1 s1⟩
    | @lst p vs ds hp rs => exact ⟨!vs.isEmpty, .inl ⟨vs, SqL.of (s1.ok.lst hp), rfl⟩, by rw [reps_empty rs]; exact q _ hd g1 s1⟩
    | _ => exact hd.elim

/-! ### subscripts, slices -/
/-- a list's, a tuple's, a text's item -/
@[simp] def fIx : D → D → (D → Prop) → Prop
  | .tup ds, .int i, P => ∃ d, atI ds i = some d ∧ P d
  | .lst ds, .int i, P => ∃ d, atI ds i = some d ∧ P d
  | .str z, .int i, P => z.length ≤ 16777216 ∧ ∃ c, atI z.cps.toList i = some c ∧ P (.str ⟨#[c]⟩)
  | _, _, _ => False
theorem reps_at {vs : List V} {ds : List D} {i : Int} {d : D} (r : Reps K g vs ds) (h : atI ds i = some d) : ∃ v, atI vs i = some v ∧ Rep K g v d := by
  unfold atI at h ⊢
  rw [r.length]
  cases e : ixN ds.length i with
  | none => rw [e] at h; cases h
  | some j =>
    rw [e] at h
    obtain ⟨v, h1, h2⟩ := r.get (show ds[j]? = some d from h)
    exact ⟨v, h1, h2⟩
theorem rel_ix : Rel2 K (rIx K) fIx := by
  intro g0 g x y a b P Q s rx ry w q
  have r0 := Step.refl s.ok
  cases rx with
  | @tup p vs ds hp rs => cases ry with
    | int i =>
      obtain ⟨d, h1, h2⟩ := w
      obtain ⟨v, h3, h4⟩ := reps_at rs h1
      exact .inr (.inl ⟨p, vs, i, v, rfl, rfl, s.ok.sqT hp, h3, q _ h2 _ g r0 h4⟩)
    | _ => exact w.elim
  | @lst p vs ds hp rs => cases ry with
    | int i =>
      obtain ⟨d, h1, h2⟩ := w
      obtain ⟨v, h3, h4⟩ := reps_at rs h1
      exact .inl ⟨p, vs, i, v, rfl, rfl, SqL.of (s.ok.lst hp), h3, q _ h2 _ g r0 h4⟩
    | _ => exact w.elim
  | str z => cases ry with
    | int i =>
      obtain ⟨h0, c, h1, h2⟩ := w
      exact .inr (.inr ⟨z, i, c, rfl, rfl, by rw [sizeLine_eq]; exact h0, h1, q _ h2 _ g r0 (.str _)⟩)
    | _ => exact w.elim
  | _ => cases ry <;> exact w.elim
theorem de_ix {W : WX} {g0 : Gh} {a b : Expr} {ta tb : DT} {pos : Pos} (ha : DE X W g0 a ta) (hb : DE X W g0 b tb) (hs : PlainIx b := by intro _ _; rfl) : DE X W g0 (.Subscript a b pos) (dOp fIx ta tb) :=
  PE.imp (pe_ix ix_seq ha hb hs) fun σ H Q h => lift2 rel_ix h
/-- the ends of a slice -/
def sIx (n d : Nat) (o : Option Int) : Nat := HT.sIx n d o
def cutD (ds : List D) (lo hi : Option Int) : List D := (ds.drop (HT.sIx ds.length 0 lo)).take (HT.sIx ds.length ds.length hi - HT.sIx ds.length 0 lo)
@[simp] def fSl (lo hi : Option Int) : D → (D → Prop) → Prop
  | .tup ds, P => P (.tup (cutD ds lo hi))
  | .lst ds, P => P (.lst (cutD ds lo hi))
  | .str z, P => z.length ≤ 16777216 ∧ P (.str (cutS z lo hi))
  | _, _ => False
abbrev DO := Rho → (Option Int → Prop) → (Str → Prop) → Prop
@[simp] def dNoP : DO := fun _ P _ => P none
@[simp] def onI (P : Int → Prop) : D → Prop
  | .int i => P i
  | _ => False
theorem onI.out {P : Int → Prop} {d : D} (h : onI P d) : ∃ i, d = .int i ∧ P i := by
  cases d with
  | int i => exact ⟨i, rfl, h⟩
  | _ => exact h.elim
@[simp] def dPart (t : DT) : DO := fun ρ P Ex => t ρ (onI fun i => P (some i)) Ex
@[simp] def dSl (t : DT) (lo hi : DO) : DT := fun ρ P Ex => t ρ (fun d => lo ρ (fun l => hi ρ (fun h => fSl l h d P) Ex) Ex) Ex
def liftO (K : PySem.W.Frag) (W : WX) (g0 : Gh) (t : DO) : TO := fun σ H Q => ∃ (g : Gh) (ρ : Rho) (P : Option Int → Prop) (Ex : Str → Prop), g.H = H ∧ Step g0 g ∧ EnvOk K g0 g ρ σ ∧ t ρ P Ex ∧
  (∀ d, P d → ∀ g', Step g g' → Q d g'.H) ∧ XOk K W g σ Ex
theorem PO.imp {e : Option Expr} {t t' : TO} (h : PO X e t) (i : ∀ σ H Q, t' σ H Q → t σ H Q) : PO X e t' := ⟨fun pins s σ H Q I w => h.run pins s σ H Q I (i _ _ _ w)⟩
abbrev DPO (X : Cx) (W : WX) (g0 : Gh) (e : Option Expr) (t : DO) : Prop := PO X e (liftO X.K W g0 t)
section
variable {W : WX} {g0 : Gh} {e : Expr} {lo hi : Option Expr} {t : DT} {tl th : DO} {pos p2 : Pos}
theorem do_none : DPO X W g0 none dNoP := PO.imp po_none fun σ H Q ⟨g, ρ, P, Ex, e, s0, _, t, q, _⟩ => by
  subst e; exact q _ t g (Step.refl s0.ok)
theorem do_some (h : DE X W g0 e t) : DPO X W g0 (some e) (dPart t) := PO.imp (po_some h) fun σ H Q h => by
  obtain ⟨g, ρ, P, Ex, rfl, s0, e, t, q, x⟩ := h
  refine ⟨g, ρ, _, Ex, rfl, s0, e, t, fun d hd v g1 s1 r1 => ?_, x⟩
  obtain ⟨i, rfl, hi⟩ := hd.out
  cases r1
  exact ⟨i, rfl, q _ hi g1 s1⟩
def rSlD (K : PySem.W.Frag) : V → Option Int → Option Int → Hp → VK → Prop := fun x lo hi H Q => rSlA K x lo hi H Q ∨ rSlL K x lo hi H Q ∨ rSlS x lo hi H Q
theorem reps_cut {vs : List V} {ds : List D} (r : Reps K g vs ds) (lo hi : Option Int) : Reps K g (cutV vs lo hi) (cutD ds lo hi) := by
  unfold cutV cutD
  rw [r.length]
  exact (r.drop _).take _
theorem cutD_all {ds : List D} {lo hi : Option Int} (h : HT.sIx ds.length 0 lo = 0 ∧ HT.sIx ds.length ds.length hi = ds.length) : cutD ds lo hi = ds := by
  unfold cutD
  rw [h.1, h.2, List.drop_zero, Nat.sub_zero, List.take_length]
theorem de_sl (he : DE X W g0 e t) (hl : DPO X W g0 lo tl) (hu : DPO X W g0 hi th) : DE X W g0 (.Subscript e (.Slice lo hi none p2) pos) (dSl t tl th) :=
  PE.imp (pe_slice (r := rSlD X.K) (SlR.or sl_tupA (SlR.or sl_list sl_str)) he hl hu) fun σ H Q h => by
    obtain ⟨g, ρ, P, Ex, rfl, s0, e, t, q, x⟩ := h
    refine ⟨g, ρ, _, Ex, rfl, s0, e, t, fun d hd v g1 s1 r1 => ?_, x⟩
    refine ⟨g1, ρ, _, Ex, rfl, s0.trans s1, e.step s1, hd, fun l hl g2 s2 => ?_, x.step s1⟩
    refine ⟨g2, ρ, _, Ex, rfl, s0.trans (s1.trans s2), e.step (s1.trans s2), hl, fun h hh g3 s3 => ?_, x.step (s1.trans s2)⟩
    have s13 := s1.trans (s2.trans s3)
    have r3 := r1.step (s2.trans s3)
    have ok := s13.ok
    cases r3 with
    | @tup p vs ds hp rs =>
      refine .inl ⟨p, vs, rfl, ok.sqT hp, fun hw => ?_, fun hw a ha => ?_⟩
      · have e1 := cutD_all (ds := ds) (lo := l) (hi := h) (by rw [← rs.length]; exact hw)
        have hh' : P (.tup (cutD ds l h)) := hh
        rw [e1] at hh'
        exact q _ hh' _ g3 s13 (.tup hp rs)
      · obtain ⟨s4, r4⟩ := newTup ok ha (reps_cut rs l h)
        exact q _ hh _ _ (s13.trans s4) r4
    | @lst p vs ds hp rs =>
      refine .inr (.inl ⟨p, vs, rfl, SqL.of (ok.lst hp), fun a ha => ?_⟩)
      obtain ⟨s4, r4⟩ := newLst ok ha (reps_cut rs l h)
      exact q _ hh _ _ (s13.trans s4) r4
    | str z => exact .inr (.inr ⟨z, rfl, by rw [sizeLine_eq]; exact hh.1, q _ hh.2 _ g3 s13 (.str _)⟩)
    | _ => exact hh.elim
end

/-! ### calls of built-ins by values -/
/-- what a built-in's rule asks is had from data -/
def RelC (K : PySem.W.Frag) (r : List V → Hp → VK → Prop) (f : List D → (D → Prop) → Prop) : Prop := ∀ (g0 g : Gh) (xs : List V) (a : List D) (P : D → Prop) (Q : VK), Step g0 g → Reps K g xs a → f a P → (∀ d, P d → ∀ v g', Step g g' → Rep K g' v d → Q v g'.H) → r xs g.H Q
/-- .. and what it makes is no one else's -/
def RelF (K : PySem.W.Frag) (r : List V → Hp → VK → Prop) (f : List D → (D → Prop) → Prop) : Prop := ∀ (g0 g : Gh) (xs : List V) (a : List D) (P : D → Prop) (Q : VK), Step g0 g → Reps K g xs a → f a P → (∀ d, P d → ∀ p g', Step g g' → g.H p = none → Own K g0 g' p d → Q (.ref p) g'.H) → r xs g.H Q
@[simp] def dB (f : List D → (D → Prop) → Prop) (ts : DA) : DT := fun ρ P Ex => ts ρ (fun ds => f ds P) Ex
section
variable {W : WX} {g0 : Gh} {ts : DA} {r : List V → Hp → VK → Prop} {f : List D → (D → Prop) → Prop} {x : Str} {id T : String} {e : Expr} {es : List Expr} {p pos : Pos}
theorem liftB_ (hr : RelC X.K r f) {σ : L2.St} {H : Hp} {Q : VK} (h : lift X.K W g0 (dB f ts) σ H Q) : tCB r (liftA X.K W g0 ts) σ H Q := by
  obtain ⟨g, ρ, P, Ex, rfl, s0, e, t, q, x⟩ := h
  exact ⟨g, ρ, _, Ex, rfl, s0, e, t, fun ds hd vs g1 s1 r1 => hr g0 g1 vs ds P Q (s0.trans s1) r1 hd fun d hd v g2 s2 r2 => q d hd v g2 (s1.trans s2) r2, x⟩
theorem liftF_ (hr : RelF X.K r f) {σ : L2.St} {H : Hp} {Q : VK} (h : liftF X.K W g0 (dB f ts) σ H Q) : tCB r (liftA X.K W g0 ts) σ H Q := by
  obtain ⟨g, ρ, P, Ex, rfl, s0, e, t, q, x⟩ := h
  exact ⟨g, ρ, _, Ex, rfl, s0, e, t, fun ds hd vs g1 s1 r1 => hr g0 g1 vs ds P Q (s0.trans s1) r1 hd fun d hd p g2 s2 hp o => q d hd p g2 (s1.trans s2) (s1.none hp) o, x⟩
theorem de_callB (hc : CallR X (.builtin id) r) (hr : RelC X.K r f) (hm : X.mg x = none) (hv : bootBuiltins x = some (.builtin id)) (ha : DPA X W g0 (e :: es) ts) (hg : Gl X x := by rfl) (hn : x ≠ "__name__" := by decide) (hdb : (x == ("__debug__" : Str)) = false := by decide)
    (he : starEach (e :: es) X.env = (false, eval e X.env) :: starEach es X.env := by rfl) (hpl : (backTo pos (starEach es X.env)).any (·.1) = false := by rfl) : DE X W g0 (.Call (.Name x p) (e :: es) [] pos) (dB f ts) :=
  PE.imp (pe_callB hc hg hm hv ha hn hdb he hpl) fun σ H Q h => liftB_ hr h
theorem de_callTy (hc : CallR X (.type T) r) (hr : RelC X.K r f) (hm : X.mg x = none) (hv : bootBuiltins x = some (.type T)) (ha : DPA X W g0 (e :: es) ts) (hg : Gl X x := by rfl) (hn : x ≠ "__name__" := by decide) (hdb : (x == ("__debug__" : Str)) = false := by decide)
    (he : starEach (e :: es) X.env = (false, eval e X.env) :: starEach es X.env := by rfl) (hpl : (backTo pos (starEach es X.env)).any (·.1) = false := by rfl) : DE X W g0 (.Call (.Name x p) (e :: es) [] pos) (dB f ts) :=
  PE.imp (pe_callTy hc hg hm hv ha hn hdb he hpl) fun σ H Q h => liftB_ hr h
theorem df_callTy (hc : CallR X (.type T) r) (hr : RelF X.K r f) (hm : X.mg x = none) (hv : bootBuiltins x = some (.type T)) (ha : DPA X W g0 (e :: es) ts) (hg : Gl X x := by rfl) (hn : x ≠ "__name__" := by decide) (hdb : (x == ("__debug__" : Str)) = false := by decide)
    (he : starEach (e :: es) X.env = (false, eval e X.env) :: starEach es X.env := by rfl) (hpl : (backTo pos (starEach es X.env)).any (·.1) = false := by rfl) : DF X W g0 (.Call (.Name x p) (e :: es) [] pos) (dB f ts) :=
  PE.imp (pe_callTy hc hg hm hv ha hn hdb he hpl) fun σ H Q h => liftF_ hr h
end
/-- one argument -/
@[simp] def on1 (f : D → (D → Prop) → Prop) : List D → (D → Prop) → Prop
  | [d], P => f d P
  | _, _ => False
@[simp] def fLen : D → (D → Prop) → Prop
  | .str z, P => z.length ≤ 16777216 ∧ P (.int z.length)
  | .tup ds, P => P (.int ds.length)
  | .lst ds, P => P (.int ds.length)
  | _, _ => False
theorem rel_len : RelC K (fun xs H Q => ∃ x n, xs = [x] ∧ LenV K x H n ∧ Q (.int n) H) (on1 fLen) := by
  intro g0 g xs a P Q s rs w q
  have r0 := Step.refl s.ok
  cases rs with
  | nil => exact w.elim
  | cons r rs =>
    cases rs with
    | cons _ _ => exact w.elim
    | nil =>
      cases r with
      | str z => exact ⟨_, z.length, rfl, ⟨by rw [sizeLine_eq]; exact w.1, rfl⟩, q _ w.2 _ g r0 (.int _)⟩
      | @tup p vs ds hp rs => exact ⟨_, ds.length, rfl, .inr ⟨vs, s.ok.sqT hp, rs.length.symm⟩, q _ w _ g r0 (.int _)⟩
      | @lst p vs ds hp rs => exact ⟨_, ds.length, rfl, .inl ⟨vs, SqL.of (s.ok.lst hp), rs.length.symm⟩, q _ w _ g r0 (.int _)⟩
      | _ => exact w.elim
/-- truth values, numbers of a list -/
def bools : List D → Option (List Bool)
  | [] => some []
  | .bl b :: r => (bools r).map (b :: ·)
  | _ => none
def nums : List D → Option (List Int)
  | [] => some []
  | .int b :: r => (nums r).map (b :: ·)
  | _ => none
theorem bools_eq : ∀ {ds : List D} {bs : List Bool}, bools ds = some bs → ds = bs.map D.bl
  | [], bs, h => by
    have e : [] = bs := Option.some.inj h
    subst e; rfl
  | .bl b :: r, bs, h => by
    have h' : (bools r).map (b :: ·) = some bs := h
    cases e : bools r with
    | none => rw [e] at h'; cases h'
    | some cs =>
      rw [e] at h'
      have e2 : b :: cs = bs := Option.some.inj h'
      subst e2
      rw [bools_eq e]; rfl
  | .non :: _, _, h => by cases h
  | .int _ :: _, _, h => by cases h
  | .str _ :: _, _, h => by cases h
  | .tup _ :: _, _, h => by cases h
  | .lst _ :: _, _, h => by cases h
  | .dS _ :: _, _, h => by cases h
  | .dT _ :: _, _, h => by cases h
  | .ch _ _ :: _, _, h => by cases h
  | .drw :: _, _, h => by cases h
  | .scr _ :: _, _, h => by cases h
theorem nums_eq : ∀ {ds : List D} {bs : List Int}, nums ds = some bs → ds = bs.map D.int
  | [], bs, h => by
    have e : [] = bs := Option.some.inj h
    subst e; rfl
  | .int b :: r, bs, h => by
    have h' : (nums r).map (b :: ·) = some bs := h
    cases e : nums r with
    | none => rw [e] at h'; cases h'
    | some cs =>
      rw [e] at h'
      have e2 : b :: cs = bs := Option.some.inj h'
      subst e2
      rw [nums_eq e]; rfl
  | .non :: _, _, h => by cases h
  | .bl _ :: _, _, h => by cases h
  | .str _ :: _, _, h => by cases h
  | .tup _ :: _, _, h => by cases h
  | .lst _ :: _, _, h => by cases h
  | .dS _ :: _, _, h => by cases h
  | .dT _ :: _, _, h => by cases h
  | .ch _ _ :: _, _, h => by cases h
  | .drw :: _, _, h => by cases h
  | .scr _ :: _, _, h => by cases h
theorem bools_map : ∀ (bs : List Bool), bools (bs.map D.bl) = some bs
  | [] => rfl
  | b :: r => by show (bools (r.map D.bl)).map (b :: ·) = _; rw [bools_map r]; rfl
theorem nums_map : ∀ (bs : List Int), nums (bs.map D.int) = some bs
  | [] => rfl
  | b :: r => by show (nums (r.map D.int)).map (b :: ·) = _; rw [nums_map r]; rfl
def fAll : D → (D → Prop) → Prop
  | .lst ds, P => ∃ bs, bools ds = some bs ∧ P (.bl (bs.all id))
  | _, _ => False
def fSum : D → (D → Prop) → Prop
  | .lst ds, P => ∃ ns, nums ds = some ns ∧ P (.int ns.sum)
  | _, _ => False
def fMaxL : D → (D → Prop) → Prop
  | .lst ds, P => ∃ ns, nums ds = some ns ∧ ns ≠ [] ∧ ∀ m ∈ ns, (∀ y ∈ ns, y ≤ m) → P (.int m)
  | _, _ => False
theorem rel_all : RelC K (rAll K) (on1 fAll) := by
  intro g0 g xs a P Q s rs w q
  cases rs with
  | nil => exact w.elim
  | cons r rs =>
    cases rs with
    | cons _ _ => exact w.elim
    | nil =>
      cases r with
      | @lst p vs ds hp rs =>
        obtain ⟨bs, h1, h2⟩ := w
        have e := bools_eq h1
        subst e
        exact ⟨p, bs, rfl, SqL.of (by rw [← bls_of_reps rs]; exact s.ok.lst hp), q _ h2 _ g (Step.refl s.ok) (.bl _)⟩
      | _ => exact w.elim
theorem rel_sum : RelC K (rSum K) (on1 fSum) := by
  intro g0 g xs a P Q s rs w q
  cases rs with
  | nil => exact w.elim
  | cons r rs =>
    cases rs with
    | cons _ _ => exact w.elim
    | nil =>
      cases r with
      | @lst p vs ds hp rs =>
        obtain ⟨bs, h1, h2⟩ := w
        have e := nums_eq h1
        subst e
        exact ⟨p, bs, rfl, SqL.of (by rw [← ints_of_reps rs]; exact s.ok.lst hp), q _ h2 _ g (Step.refl s.ok) (.int _)⟩
      | _ => exact w.elim
theorem rel_maxL : RelC K (rMax K) (on1 fMaxL) := by
  intro g0 g xs a P Q s rs w q
  cases rs with
  | nil => exact w.elim
  | cons r rs =>
    cases rs with
    | cons _ _ => exact w.elim
    | nil =>
      cases r with
      | @lst p vs ds hp rs =>
        obtain ⟨bs, h1, h0, h2⟩ := w
        have e := nums_eq h1
        subst e
        exact ⟨p, bs, rfl, SqL.of (by rw [← ints_of_reps rs]; exact s.ok.lst hp), List.length_pos_iff.mpr h0, fun m hm hy => q _ (h2 m hm hy) _ g (Step.refl s.ok) (.int _)⟩
      | _ => exact w.elim
@[simp] def fMax2 : List D → (D → Prop) → Prop
  | [.int i, .int j], P => P (.int (max i j))
  | _, _ => False
theorem reps2 {xs : List V} {a : List D} (r : Reps K g xs a) {n : Nat} (h : a.length = n) : xs.length = n := r.length.trans h
theorem rel_max2 : RelC K (fun xs H Q => ∃ i j, xs = [.int i, .int j] ∧ Q (.int (if j > i then j else i)) H) fMax2 := by
  intro g0 g xs a P Q s rs w q
  unfold fMax2 at w
  split at w
  · rename_i i j
    cases rs with
    | cons r1 rs => cases rs with
      | cons r2 rs =>
        cases rs; cases r1; cases r2
        refine ⟨i, j, rfl, ?_⟩
        have e : (if j > i then j else i) = max i j := by split <;> omega
        rw [e]
        exact q _ w _ g (Step.refl s.ok) (.int _)
  · exact w.elim
@[simp] def fAbs : D → (D → Prop) → Prop
  | .int i, P => P (.int (i.natAbs : Int))
  | _, _ => False
theorem rel_abs : RelC K (fun xs H Q => ∃ i, xs = [.int i] ∧ Q (.int (if i < 0 then -i else i)) H) (on1 fAbs) := by
  intro g0 g xs a P Q s rs w q
  cases rs with
  | nil => exact w.elim
  | cons r rs =>
    cases rs with
    | cons _ _ => exact w.elim
    | nil =>
      cases r with
      | int i =>
        refine ⟨i, rfl, ?_⟩
        have e : (if i < 0 then -i else i) = (i.natAbs : Int) := by split <;> omega
        rw [e]
        exact q _ w _ g (Step.refl s.ok) (.int _)
      | _ => exact w.elim
@[simp] def fInt : D → (D → Prop) → Prop
  | .int i, P => P (.int i)
  | .bl b, P => P (.int (if b then 1 else 0))
  | _, _ => False
theorem rel_int : RelC K (fun xs H Q => (∃ i, xs = [.int i] ∧ Q (.int i) H) ∨ ∃ k, xs = [.bl k] ∧ Q (.int (if k then 1 else 0)) H) (on1 fInt) := by
  intro g0 g xs a P Q s rs w q
  cases rs with
  | nil => exact w.elim
  | cons r rs =>
    cases rs with
    | cons _ _ => exact w.elim
    | nil =>
      cases r with
      | int i => exact .inl ⟨i, rfl, q _ w _ g (Step.refl s.ok) (.int _)⟩
      | bl b => exact .inr ⟨b, rfl, q _ w _ g (Step.refl s.ok) (.int _)⟩
      | _ => exact w.elim
/-- list(..), tuple(..) of a list or tuple -/
@[simp] def fList : D → (D → Prop) → Prop
  | .lst ds, P => P (.lst ds)
  | .tup ds, P => P (.lst ds)
  | _, _ => False
@[simp] def fTuple : D → (D → Prop) → Prop
  | .lst ds, P => P (.tup ds)
  | .tup ds, P => P (.tup ds)
  | _, _ => False
theorem relF_list : RelF K (fun xs H Q => ∃ p ys, xs = [.ref p] ∧ (SqL K H p ys ∨ SqT K H p ys) ∧ ∀ l, H l = none → Q (.ref l) (upd H l (.lst ys))) (on1 fList) := by
  intro g0 g xs a P Q s rs w q
  cases rs with
  | nil => exact w.elim
  | cons r rs =>
    cases rs with
    | cons _ _ => exact w.elim
    | nil =>
      cases r with
      | @lst p vs ds hp rs =>
        refine ⟨p, vs, rfl, .inl (SqL.of (s.ok.lst hp)), fun l hl => ?_⟩
        obtain ⟨s2, o⟩ := ownLst s hl rs
        exact q _ w l _ s2 hl o
      | @tup p vs ds hp rs =>
        refine ⟨p, vs, rfl, .inr (s.ok.sqT hp), fun l hl => ?_⟩
        obtain ⟨s2, o⟩ := ownLst s hl rs
        exact q _ w l _ s2 hl o
      | _ => exact w.elim
theorem relC_list : RelC K (fun xs H Q => ∃ p ys, xs = [.ref p] ∧ (SqL K H p ys ∨ SqT K H p ys) ∧ ∀ l, H l = none → Q (.ref l) (upd H l (.lst ys))) (on1 fList) := by
  intro g0 g xs a P Q s rs w q
  cases rs with
  | nil => exact w.elim
  | cons r rs =>
    cases rs with
    | cons _ _ => exact w.elim
    | nil =>
      cases r with
      | @lst p vs ds hp rs =>
        refine ⟨p, vs, rfl, .inl (SqL.of (s.ok.lst hp)), fun l hl => ?_⟩
        obtain ⟨s2, o⟩ := newLst s.ok hl rs
        exact q _ w _ _ s2 o
      | @tup p vs ds hp rs =>
        refine ⟨p, vs, rfl, .inr (s.ok.sqT hp), fun l hl => ?_⟩
        obtain ⟨s2, o⟩ := newLst s.ok hl rs
        exact q _ w _ _ s2 o
      | _ => exact w.elim
theorem relC_tuple : RelC K (fun xs H Q => ∃ p ys, xs = [.ref p] ∧ ((SqL K H p ys ∧ ∀ l, H l = none → Q (.ref l) (upd H l (.tup ys))) ∨ (SqT K H p ys ∧ Q (.ref p) H))) (on1 fTuple) := by
  intro g0 g xs a P Q s rs w q
  cases rs with
  | nil => exact w.elim
  | cons r rs =>
    cases rs with
    | cons _ _ => exact w.elim
    | nil =>
      cases r with
      | @lst p vs ds hp rs =>
        refine ⟨p, vs, rfl, .inl ⟨SqL.of (s.ok.lst hp), fun l hl => ?_⟩⟩
        obtain ⟨s2, o⟩ := newTup s.ok hl rs
        exact q _ w _ _ s2 o
      | @tup p vs ds hp rs => exact ⟨p, vs, rfl, .inr ⟨s.ok.sqT hp, q _ w _ g (Step.refl s.ok) (.tup hp rs)⟩⟩
      | _ => exact w.elim
end
end AU

/-! AuOps3: isinstance, f-strings, comprehensions, what changes a list of one's own. -/
namespace AU
open PySem L2 PySem.Spec PyProof.Rows

/-! ### isinstance -/
@[simp] def tyN : D → String
  | .non => "NoneType"
  | .bl _ => "bool"
  | .int _ => "int"
  | .str _ => "str"
  | .tup _ => "tuple"
  | .lst _ => "list"
  | .dS _ => "dict"
  | .dT _ => "dict"
  | .ch _ _ => ""
  | .drw => ""
  | .scr _ => ""
@[simp] def isN (a b : String) : Bool := a == b || (a == "bool" && b == "int")
def tyNs : List String := ["NoneType", "bool", "int", "str", "tuple", "list", "dict"]
theorem kit_all : (tyNs.all fun a => tyNs.all fun b => kitB a b == some (isN a b)) = true := by decide +kernel
theorem kit_at {a b : String} (ha : a ∈ tyNs) (hb : b ∈ tyNs) : kitB a b = some (isN a b) := beq_iff_eq.mp (List.all_eq_true.mp (List.all_eq_true.mp kit_all a ha) b hb)
@[simp] def known (d : D) : Bool := tyN d != ""
theorem known_mem {d : D} (h : known d = true) : tyN d ∈ tyNs := by
  cases d <;> first | (simp [tyN, tyNs]; done) | (exact absurd h (by simp [known, tyN]))
@[simp] def fIsi (T : String) : D → (D → Prop) → Prop := fun d P => known d = true ∧ P (.bl (isN (tyN d) T))
section
variable {X : Cx} {W : WX} {g0 : Gh} {pins : List (Addr × Obj)} {σ : L2.St} {s : Shared} {g : Gh}
/-- what the library asks of data's value -/
theorem rep_kit {v : V} {u : Value} {d : D} (I : Inv X pins σ g.H s) (h : Hold g) (r : Rep X.K g v d) (ru : RelV v u) (hk : known d = true) : ∃ P : Heap → Prop, PySem.W.KitX X.K u (.type (tyN d)) P ∧ P s.heap ∧ u ≠ .builtin "__main__.__loader__#opaque" := by
  cases r with
  | non => exact kit_of I ru (.base .non)
  | bl b => exact kit_of I ru (.base (.bl b))
  | int i => exact kit_of I ru (.base (.int i))
  | str x => exact kit_of I ru (.base (.str x))
  | @tup a vs ds ha rs =>
    rcases h.sqT ha with (q | ⟨o, q⟩) | ⟨o, its, n, q, c, _⟩
    · exact kit_of I ru (.base (.tup q))
    · exact kit_of I ru (.fTuple q)
    · exact kit_of I ru (.kTuple q c)
  | @lst a vs ds ha rs => exact kit_of I ru (.base (.lst (h.lst ha)))
  | @dS a kvs ds ha rs =>
    rcases h.le _ _ ha with q | ⟨_, ob, q⟩
    · exact kit_of I ru (.base (.dK q))
    · exact kit_of I ru (.fDict q)
  | @dT a kvs ds ha rs =>
    rcases h.le _ _ ha with q | ⟨_, ob, q⟩
    · exact kit_of I ru (.base (.dT q))
    · cases (show u = Value.ref a from ru)
      obtain ⟨_, _, _, xs, _, o, es, ep, h1, h2, _⟩ := (show ObjOk X.prog X.w g.H s.heap a (.frz ob (.dT kvs)) from I.hok a _ q)
      exact ⟨_, PySem.W.kitx_dict, ⟨o, h1, h2.1⟩, fun z => nomatch z⟩
  | ch _ _ _ => exact absurd hk (by simp [known, tyN])
  | drw _ => exact absurd hk (by simp [known, tyN])
  | scr _ _ => exact absurd hk (by simp [known, tyN])
/-- isinstance(e, T), T a built-in class -/
theorem de_isi (T : String) {x : Str} {e : Expr} {t : DT} {p p2 pos : Pos} (B : Bi X.mg) (he : DE X W g0 e t) (hm : X.mg x = none) (hv : bootBuiltins x = some (.type T) := by decide +kernel) (hT : T ∈ tyNs := by decide) (hg : Gl X "isinstance" := by rfl) (hg2 : Gl X x := by rfl)
    (hs : starEach [e, Expr.Name x p2] X.env = (false, eval e X.env) :: starEach [Expr.Name x p2] X.env := by rfl) (hs2 : starEach [Expr.Name x p2] X.env = (false, eval (Expr.Name x p2) X.env) :: starEach [] X.env := by rfl) (hn : x ≠ "__name__" := by decide) (hdb : (x == ("__debug__" : Str)) = false := by decide)
    (hpl : (backTo pos (starEach [Expr.Name x p2] X.env)).any (·.1) = false := by rfl) : DE X W g0 (.Call (.Name "isinstance" p) [e, .Name x p2] [] pos) (fun ρ P Ex => t ρ (fun d => fIsi T d P) Ex) := by
  refine ⟨fun pins s σ H Q I h => ?_⟩
  obtain ⟨g, ρ, P, Ex, rfl, s0, e0, w, q, x0⟩ := h
  have hb : bootBuiltins ("isinstance" : Str) = some (.builtin "isinstance") := by decide +kernel
  refine wpAny_Call_Name_kw (ld_blt I hg (B.at_ "isinstance") hb ?_)
  have hc : PE X (.Name x p2) (tC (.ty T)) := pe_bltn hg2 hm hv rfl hn hdb
  have ha := pa_cons he (pa_cons hc pa_nil hs2) hs
  refine PyProof.Rows.callWith_builtin1 (thn (ha.run pos pins s σ g.H (fun vs H1 => ∃ v d g1, vs = [v, .ty T] ∧ g1.H = H1 ∧ Step g g1 ∧ Rep X.K g1 v d ∧ fIsi T d P) I
    ⟨g, ρ, _, Ex, rfl, s0, e0, w, fun d hd v g1 s1 r1 => ⟨v, d, g1, rfl, rfl, s1, r1, hd⟩, x0⟩) fun us s1 hh => ?_) hs hpl
  obtain ⟨vs, H1, I1, r1, v, d, g1, rfl, rfl, s1', rd, hk, hP⟩ := hh
  obtain ⟨u1, u2, rfl, ru, rt⟩ := vals2 r1
  cases (show u2 = Value.type T from rt)
  obtain ⟨Z, k, p, hx⟩ := rep_kit I1 s1'.ok rd ru hk
  exact PySem.W.kia_one k I1.kIn p (kit_ty (kit_at (known_mem hk) hT)) hx fun tk => ⟨.bl _, g1.H, I1.tok tk, rfl, q _ hP _ g1 s1' (.bl _)⟩

/-! ### f-strings -/
@[simp] def fFmt : D → (D → Prop) → Prop
  | .str y, P => y.length ≤ 16777216 ∧ P (.str y)
  | _, _ => False
@[simp] def dFmt (t : DT) : DT := fun ρ P Ex => t ρ (fun d => fFmt d P) Ex
theorem de_fmt {e : Expr} {t : DT} {pos : Pos} (he : DE X W g0 e t) : DE X W g0 (.FormattedValue e (-1) none pos) (dFmt t) := PE.imp (pe_fmt he) fun σ H Q h => by
  obtain ⟨g, ρ, P, Ex, rfl, s0, e, w, q, x⟩ := h
  refine ⟨g, ρ, _, Ex, rfl, s0, e, w, fun d hd v g1 s1 r1 => ?_, x⟩
  cases r1 with
  | str y => exact .inl ⟨y, rfl, by rw [sizeLine_eq]; exact hd.1, q _ hd.2 _ g1 s1 (.str y)⟩
  | _ => exact hd.elim
/-- the parts of an f-string -/
inductive DJ (X : Cx) (W : WX) (g0 : Gh) : List Expr → List DT → Prop where
  | nil : DJ X W g0 [] []
  | cons {e : Expr} {t : DT} {es : List Expr} {ts : List DT} (h : DE X W g0 e t) (r : DJ X W g0 es ts) : DJ X W g0 (e :: es) (t :: ts)
@[simp] def dJs : List DT → Str → DT
  | [], acc => fun _ P _ => P (.str acc)
  | t :: ts, acc => fun ρ P Ex => t ρ (fun d => match d with
    | .str y => (acc ++ y).length ≤ 16777216 ∧ dJs ts (acc ++ y) ρ P Ex
    | _ => False) Ex
theorem dj_pj {es : List Expr} {ts : List DT} (h : DJ X W g0 es ts) : PJ X es (ts.map (lift X.K W g0)) := by
  induction h with
  | nil => exact .nil
  | cons h r ih => exact .cons h ih
theorem dj_read {Q : VK} {σ : L2.St} : ∀ {ts : List DT} {acc : Str} {g : Gh} {ρ : Rho} {P : D → Prop} {Ex : Str → Prop}, Step g0 g → EnvOk X.K g0 g ρ σ → dJs ts acc ρ P Ex → (∀ d, P d → ∀ v g', Step g g' → Rep X.K g' v d → Q v g'.H) → XOk X.K W g σ Ex →
    tJs (ts.map (lift X.K W g0)) acc σ g.H fun out H1 => Q (.str out) H1
  | [], acc, g, ρ, P, Ex, s0, e, w, q, x => q _ w _ g (Step.refl s0.ok) (.str _)
  | t :: ts, acc, g, ρ, P, Ex, s0, e, w, q, x => by
    refine ⟨g, ρ, _, Ex, rfl, s0, e, w, fun d hd v g1 s1 r1 => ?_, x⟩
    cases r1 with
    | str y => exact ⟨y, rfl, by rw [sizeLine_eq]; exact hd.1, dj_read (s0.trans s1) (e.step s1) hd.2 (fun d hd v g2 s2 r2 => q d hd v g2 (s1.trans s2) r2) (x.step s1)⟩
    | _ => exact hd.elim
theorem de_joined {v1 v2 : Expr} {rest : List Expr} {ts : List DT} {pos : Pos} (h : DJ X W g0 (v1 :: v2 :: rest) ts) : DE X W g0 (.JoinedStr (v1 :: v2 :: rest) pos) (dJs ts Str.empty) :=
  PE.imp (pe_joined (dj_pj h)) fun σ H Q h => by
    obtain ⟨g, ρ, P, Ex, rfl, s0, e, w, q, x⟩ := h
    exact dj_read s0 e w q x

/-! ### [e for x in xs if t] -/
@[simp] def wipeD (ρ : Rho) : List Nat → Rho
  | [] => ρ
  | v :: vs => (wipeD ρ vs).set v .un
theorem EnvOk.wipe {K : PySem.W.Frag} {g0 g : Gh} {ρ : Rho} {σ : L2.St} (e : EnvOk K g0 g ρ σ) : ∀ vs : List Nat, EnvOk K g0 g (wipeD ρ vs) (L2.wipe σ vs)
  | [] => e
  | v :: vs => by
    have ih := EnvOk.wipe e vs
    show EnvOk K g0 g ((wipeD ρ vs).set v .un) ((L2.wipe σ vs).set v none)
    have un : ∀ (j : Nat) (c : Cell), ((wipeD ρ vs).set v .un)[j]? = some c → (c = .un ∧ v = j) ∨ (v ≠ j ∧ (wipeD ρ vs)[j]? = some c) := fun j c h => by
      by_cases hj : v = j
      · subst hj
        by_cases hb : v < (wipeD ρ vs).length
        · rw [List.getElem?_set_self hb] at h
          exact .inl ⟨(Option.some.inj h).symm, rfl⟩
        · rw [List.getElem?_eq_none (by simpa using hb)] at h; cases h
      · rw [List.getElem?_set_ne hj] at h
        exact .inr ⟨hj, h⟩
    refine ⟨by rw [List.length_set, List.length_set, ih.len], fun j d h => ?_, fun j d h => ?_, fun j k d e' p hjk h1 h2 h3 h4 => ?_⟩
    · rcases un j _ h with ⟨h, _⟩ | ⟨hj, h⟩
      · cases h
      · obtain ⟨w, a, b⟩ := ih.fz j d h
        exact ⟨w, by rw [List.getElem?_set_ne hj]; exact a, b⟩
    · rcases un j _ h with ⟨h, _⟩ | ⟨hj, h⟩
      · cases h
      · obtain ⟨w, a, b⟩ := ih.ow j d h
        exact ⟨w, by rw [List.getElem?_set_ne hj]; exact a, b⟩
    · rcases un j _ h1 with ⟨h, _⟩ | ⟨hj, h1⟩
      · cases h
      · rcases un k _ h2 with ⟨h, _⟩ | ⟨hk, h2⟩
        · cases h
        · rw [List.getElem?_set_ne hj] at h3
          rw [List.getElem?_set_ne hk] at h4
          exact ih.ap j k d e' p hjk h1 h2 h3 h4
abbrev noX : Str → Prop := fun _ => False
abbrev noW : WX := fun _ _ _ _ => False
def lcN (gt : DG) (tc : DB) (te : DT) (ρ : Rho) : List D → List D → (List D → Prop) → Prop
  | [], acc, P => P acc
  | d :: ds, acc, P => gt d ρ fun ρ1 => tc ρ1 (fun b => if b = true then te ρ1 (fun y => acc.length < 16777216 ∧ lcN gt tc te ρ ds (acc ++ [y]) P) noX else lcN gt tc te ρ ds acc P) noX
@[simp] def dYes : DB := fun _ P _ => P true
@[simp] def dLc (t : DIt) (gt : DG) (tc : DB) (te : DT) (sl : List Nat) : DT := fun ρ P Ex => t ρ (fun ds => lcN gt tc te (wipeD ρ sl) ds [] fun acc => P (.lst acc)) Ex
abbrev DTs (X : Cx) (W : WX) (g0 : Gh) (ifs : List Expr) (t : DB) : Prop := PTs X ifs (liftB X.K W g0 t)
theorem dts_nil : DTs X W g0 [] dYes := ⟨fun pins s σ H Q I h => pts_nil.run pins s σ H Q I (by
  obtain ⟨g, ρ, P, Ex, rfl, s0, e, w, q, x⟩ := h
  exact q _ w g (Step.refl s0.ok))⟩
theorem dts_one {c : Expr} {t : DB} (h : DTt X W g0 c t) : DTs X W g0 [c] t := pts_one h
/-- the context of a comprehension's block -/
abbrev blk (X : Cx) (s : Shared) (H : Hp) (scope : Scope) (C : Addr) (cl : List (Str × Addr)) (fp : List Addr) : Cx := X.blk s H scope (compEnvC scope cl C X.env) fp
theorem Cn.blk {k : Nat} (C : Cn X W k) (s : Shared) (H : Hp) (scope : Scope) (Ca : Addr) (cl : List (Str × Addr)) (fp : List Addr) : Cn (AU.blk X s H scope Ca cl fp) noW k :=
  ⟨fun _ _ ⟨_, _, _, _, _, _, _, _, _, _, _, _, _, _, _, _, w⟩ => w.elim, PassesOwn.never, C.hr, C.cm, C.nd⟩
/-- what stands while the list D grows -/
structure LcI (K : PySem.W.Frag) (gb : Gh) (D : Addr) (vs : List V) (ds : List AU.D) (g : Gh) : Prop where
  st : Step gb g
  ng : g.G D = none
  nm : D ∉ g.M
  at_ : g.H D = some (.lst vs)
  rs : Reps K g vs ds
theorem LcI.step {K : PySem.W.Frag} {gb g g' : Gh} {D : Addr} {vs : List V} {ds : List AU.D} (i : LcI K gb D vs ds g) (s : Step g g') : LcI K gb D vs ds g' where
  st := i.st.trans s
  ng := by
    cases q : g'.G D with
    | none => rfl
    | some z =>
      rcases s.gn D z q with h | h | h
      · rw [i.ng] at h; cases h
      · rw [i.at_] at h; cases h
      · rcases s.ok.le D z q with y | ⟨y, ob, _⟩
        · rw [s.hs D _ i.at_ i.nm] at y; cases y; exact h.elim
        · cases z <;> first | exact y.elim | exact h.elim
  nm := fun hm => by
    rcases s.mn D hm with h | h
    · exact i.nm h
    · rw [i.at_] at h; cases h
  at_ := s.hs D _ i.at_ i.nm
  rs := i.rs.step s
theorem LcI.add {K : PySem.W.Frag} {gb g : Gh} {D : Addr} {vs : List V} {ds : List AU.D} {v : V} {d : AU.D} (n0 : gb.H D = none) (i : LcI K gb D vs ds g) (r : Rep K g v d) : LcI K gb D (vs ++ [v]) (ds ++ [d]) (g.own D (.lst (vs ++ [v]))) := by
  have ne : ∀ a o, g.G a = some o → a ≠ D := fun a o h => ne_of_none h i.ng
  have nM : ∀ a ∈ g.M, a ≠ D := fun a h z => i.nm (z ▸ h)
  have up : ∀ a, a ≠ D → upd g.H D (.lst (vs ++ [v])) a = g.H a := fun a h => upd_ne h
  refine ⟨⟨i.st.gs, i.st.gn, i.st.ms, i.st.mn, fun a o h hm => ?_, ⟨fun a o h => ?_, i.st.ok.dis, fun a hm => ?_⟩⟩, i.ng, i.nm, upd_same, Reps.up (g := g) (g' := g.own D (.lst (vs ++ [v]))) (fun _ _ h => h) (fun _ h => h) (Reps.append i.rs (.cons r .nil))⟩
  · show upd g.H D (.lst (vs ++ [v])) a = some o
    rw [up a (ne_of_none h n0)]
    exact i.st.hs a o h hm
  · have := i.st.ok.le a o h
    show upd g.H D (.lst (vs ++ [v])) a = some o ∨ _
    rw [up a (ne a o h)]
    rcases this with q | ⟨q, ob, q2⟩
    · exact .inl q
    · refine .inr ⟨q, ob, ?_⟩
      show upd g.H D (.lst (vs ++ [v])) a = _
      rw [up a (ne a o h)]; exact q2
  · obtain ⟨l, ns, j, c, st, h1, h2⟩ := i.st.ok.mok a hm
    refine ⟨l, ns, j, c, st, ?_, h2⟩
    show upd g.H D (.lst (vs ++ [v])) a = _
    rw [up a (nM a hm)]; exact h1
/-- no name's own thing is at D -/
def NoOw (ρ : Rho) (σ : L2.St) (D : Addr) : Prop := ∀ (i : Nat) (d : AU.D), ρ[i]? = some (.ow d) → σ[i]? ≠ some (some (.ref D))
theorem EnvOk.free {K : PySem.W.Frag} {g0 g : Gh} {ρ : Rho} {σ : L2.St} {D : Addr} (e : EnvOk K g0 g ρ σ) (h : g.H D = none) : NoOw ρ σ D := fun i d h1 h2 => by
  obtain ⟨p, a, o⟩ := e.ow i d h1
  rw [h2] at a
  cases a
  obtain ⟨u, hu, _⟩ := OwnH.some o.at_
  rw [h] at hu; cases hu
theorem EnvOk.put {K : PySem.W.Frag} {g0 g : Gh} {ρ : Rho} {σ : L2.St} {D : Addr} {o : HO} (e : EnvOk K g0 g ρ σ) (h : NoOw ρ σ D) : EnvOk K g0 (g.own D o) ρ σ := by
  have up : ∀ {v d}, Rep K g v d → Rep K (g.own D o) v d := fun r => Rep.up (g := g) (g' := g.own D o) (fun _ _ h => h) (fun _ h => h) r
  refine ⟨e.len, fun i d h => let ⟨v, a, b⟩ := e.fz i d h; ⟨v, a, up b⟩, fun i d h1 => ?_, e.ap⟩
  obtain ⟨p, a, ow⟩ := e.ow i d h1
  have np : p ≠ D := fun z => h i d h1 (z ▸ a)
  refine ⟨p, a, ow.n0, ow.ng, ow.nm, ?_⟩
  have at_ := ow.at_
  have hp : ∀ u, g.H p = some u → upd g.H D o p = some u := fun u hu => by rw [upd_ne np]; exact hu
  cases d with
  | lst ds => obtain ⟨vs, z, r⟩ := at_; exact ⟨vs, hp _ z, Reps.up (g := g) (g' := g.own D o) (fun _ _ h => h) (fun _ h => h) r⟩
  | dS ds => obtain ⟨vs, z, r⟩ := at_; exact ⟨vs, hp _ z, RepK.up (g := g) (g' := g.own D o) (fun _ _ h => h) (fun _ h => h) r⟩
  | dT ds => obtain ⟨vs, z, r⟩ := at_; exact ⟨vs, hp _ z, RepT.up (g := g) (g' := g.own D o) (fun _ _ h => h) (fun _ h => h) r⟩
  | _ => exact at_.elim
/-- what stands ahead of a turn -/
def LcW (K : PySem.W.Frag) (gb g1 : Gh) (ρ : Rho) (σ : L2.St) (gt : DG) (tc : DB) (te : DT) (D : Addr) (ds : List AU.D) (P : List AU.D → Prop) (H : Hp) : Prop :=
  ∃ (g : Gh) (vs : List V) (acc : List AU.D), g.H = H ∧ LcI K g1 D vs acc g ∧ EnvOk K gb g ρ σ ∧ NoOw ρ σ D ∧ lcN gt tc te ρ ds acc P
theorem lc_main {J : It} {gb g1 : Gh} {ρ : Rho} {σ : L2.St} {sl : List Nat} {gt : DG} {tc : DB} {te : DT} {ds : List AU.D} {P : List AU.D → Prop} {Qd : Hp → Prop} {D : Addr} (s : Step gb g1) (e : EnvOk X.K gb g1 ρ σ) (y : Yields X.K J gb ds) (hD : g1.H D = none)
    (w : lcN gt tc te ρ ds [] P) (q : ∀ vs acc g, LcI X.K g1 D vs acc g → P acc → Qd g.H) (wi : L2.wipe σ sl = σ) :
    ∃ Wi : Nat → Nat → Hp → Prop, (∃ m, Wi 0 m (upd g1.H D (.lst []))) ∧ ∀ i m H, Wi i m H → (J.stop i H ∧ Qd H) ∨ (J.go i H ∧ ∃ Nx : Hp → Prop, (∀ H', Nx H' → ∃ m', m' < m ∧ Wi (i + 1) m' H') ∧
      ∀ x H', J.yld i H x H' → ∃ gb, liftG X.K gb sl gt x σ H' fun σ2 H2 => L2.wipe σ2 sl = σ ∧ ∃ gb, liftB X.K noW gb tc σ2 H2 fun b H3 =>
        if b = true then ∃ gb, lift X.K noW gb te σ2 H3 fun y H4 => ∃ acc, H4 D = some (.lst acc) ∧ acc.length < sizeLine ∧ Nx (upd H4 D (.lst (acc ++ [y]))) else Nx H3) := by
  have s1 := s.ok.own (.lst []) hD
  refine ⟨fun i m H => m = ds.length - i ∧ i ≤ ds.length ∧ LcW X.K gb g1 ρ σ gt tc te D (ds.drop i) P H, ⟨_, rfl, Nat.zero_le _, g1.own D (.lst []), [], [], rfl,
    ⟨s1, s.ok.free hD, s.ok.notM hD, upd_same, .nil⟩, e.step s1, e.free hD, by rw [List.drop_zero]; exact w⟩, ?_⟩
  rintro i m H ⟨rfl, hi, g, vs, acc, rfl, li, e, no, w⟩
  obtain ⟨y1, y2⟩ := y g (s.trans li.st) i
  by_cases hlt : i < ds.length
  · rw [List.drop_eq_getElem_cons hlt] at w
    obtain ⟨go, yl⟩ := y1 _ (List.getElem?_eq_getElem hlt)
    refine .inr ⟨go, fun H => LcW X.K gb g1 ρ σ gt tc te D (ds.drop (i + 1)) P H, fun H' f => ⟨_, by omega, rfl, hlt, f⟩, fun x H' hx => ?_⟩
    obtain ⟨g', rfl, s', r'⟩ := yl x H' hx
    have l' := li.step s'
    refine ⟨gb, g', ρ, _, _, rfl, s.trans l'.st, e.step s', r', w, fun ρ3 σ3 e3 z3 w3 => ⟨z3.trans wi, gb, g', ρ3, _, _, rfl, s.trans l'.st, e3, w3, fun b hb g4 s4 => ?_, fun _ z => z.elim⟩⟩
    have l4 := l'.step s4
    have eb : EnvOk X.K gb g4 ρ σ := (e.step s').step s4
    cases b with
    | true =>
      rw [if_pos rfl] at hb
      dsimp only
      rw [if_pos rfl]
      refine ⟨gb, g4, ρ3, _, _, rfl, s.trans l4.st, e3.step s4, hb, fun yd hy v g5 s5 r5 => ?_, fun _ z => z.elim⟩
      have l5 := l4.step s5
      exact ⟨vs, l5.at_, by rw [l5.rs.length, sizeLine_eq]; exact hy.1, g5.own D (.lst (vs ++ [v])), vs ++ [v], acc ++ [yd], rfl, l5.add hD r5, (eb.step s5).put no, no, hy.2⟩
    | false =>
      rw [if_neg Bool.false_ne_true] at hb
      dsimp only
      rw [if_neg Bool.false_ne_true]
      exact ⟨g4, vs, acc, rfl, l4, eb, no, hb⟩
  · have h0 : ds.length ≤ i := Nat.le_of_not_lt hlt
    rw [List.drop_of_length_le h0] at w
    exact .inl ⟨y2 h0, q _ _ _ li w⟩

theorem wipe_wipe (σ : L2.St) (vs : List Nat) : L2.wipe (L2.wipe σ vs) vs = L2.wipe σ vs := by
  apply List.ext_getElem?
  intro j
  rw [wipe_get, wipe_get, wipe_length]
  by_cases hj : j ∈ vs ∧ j < σ.length
  · rw [if_pos hj, if_pos hj]
  · rw [if_neg hj]
theorem LcI.toOwn {K : PySem.W.Frag} {g0 g1 g : Gh} {D : Addr} {vs : List V} {ds : List AU.D} (s : Step g0 g1) (hD : g1.H D = none) (i : LcI K g1 D vs ds g) : Own K g0 g D (.lst ds) := ⟨s.none hD, i.ng, i.nm, vs, i.at_, i.rs⟩
theorem lift_lc {sl : List Nat} {t : DIt} {gt : DG} {tc : DB} {te : DT} {σ : L2.St} {H : Hp} {Q : VK} (h : lift X.K W g0 (dLc t gt tc te sl) σ H Q) :
    tLc (liftI X.K W g0 t) (fun v σ H Q => ∃ gb, liftG X.K gb sl gt v σ H Q) (fun σ H Q => ∃ gb, liftB X.K noW gb tc σ H Q) (fun σ H Q => ∃ gb, lift X.K noW gb te σ H Q) sl σ H Q := by
  obtain ⟨g, ρ, P, Ex, rfl, s0, e, w, q, x⟩ := h
  refine ⟨g, ρ, _, _, rfl, s0, e, w, fun ds hd J g1 s1 y1 => ?_, x⟩
  intro D hD
  have s01 := s0.trans s1
  have e1 : EnvOk X.K (g0.re g1) g1 (wipeD ρ sl) (L2.wipe σ sl) := ((e.step s1).re).wipe sl
  have hq : ∀ vs acc g, LcI X.K g1 D vs acc g → P (.lst acc) → Q (.ref D) g.H := fun vs acc g i hp => by
    obtain ⟨g', eh, s', r', _⟩ := (i.toOwn (Step.refl s1.ok) hD).freeze i.st
    rw [← eh]
    exact q _ hp _ g' (s1.trans s') r'
  exact lc_main (Qd := Q (.ref D)) (s01.to s01 (fun _ _ h => h) fun _ h => h) e1 y1 hD hd hq (wipe_wipe σ sl)
theorem liftF_lc {sl : List Nat} {t : DIt} {gt : DG} {tc : DB} {te : DT} {σ : L2.St} {H : Hp} {Q : VK} (h : liftF X.K W g0 (dLc t gt tc te sl) σ H Q) :
    tLc (liftI X.K W g0 t) (fun v σ H Q => ∃ gb, liftG X.K gb sl gt v σ H Q) (fun σ H Q => ∃ gb, liftB X.K noW gb tc σ H Q) (fun σ H Q => ∃ gb, lift X.K noW gb te σ H Q) sl σ H Q := by
  obtain ⟨g, ρ, P, Ex, rfl, s0, e, w, q, x⟩ := h
  refine ⟨g, ρ, _, _, rfl, s0, e, w, fun ds hd J g1 s1 y1 => ?_, x⟩
  intro D hD
  have s01 := s0.trans s1
  have e1 : EnvOk X.K (g0.re g1) g1 (wipeD ρ sl) (L2.wipe σ sl) := ((e.step s1).re).wipe sl
  have hq : ∀ vs acc g, LcI X.K g1 D vs acc g → P (.lst acc) → Q (.ref D) g.H := fun vs acc g i hp => q _ hp D g (s1.trans i.st) (s1.none hD) (i.toOwn s01 hD)
  exact lc_main (Qd := Q (.ref D)) (s01.to s01 (fun _ _ h => h) fun _ h => h) e1 y1 hD hd hq (wipe_wipe σ sl)
/-- what a comprehension's block keeps -/
structure LcB (X : Cx) (k : Nat) (scope : Scope) (own : List (Str × Nat)) (tg : Expr) (ifs : List Expr) (elt : Expr) (gt : DG) (tc : DB) (te : DT) : Prop where
  bk : ∀ (s : Shared) (H : Hp) (Ca : Addr) (cl : List (Str × Addr)) (fp : List Addr), Cn (AU.blk X s H scope Ca cl fp) noW k → ∀ gb, DPG (AU.blk X s H scope Ca cl fp) gb (own.map (·.2)) tg gt ∧ DTs (AU.blk X s H scope Ca cl fp) noW gb ifs tc ∧ DE (AU.blk X s H scope Ca cl fp) noW gb elt te
section
variable {elt tg iter : Expr} {ifs : List Expr} {scope : Scope} {own : List (Str × Nat)} {pos spos py : Pos} {t : DIt} {gt : DG} {tc : DB} {te : DT} {k : Nat}
theorem de_lc (C : Cn X W k) (hi : DI X W g0 tg iter t) (ok : BlkOk X.N X.env.scope scope own) (b : LcB X k scope own tg ifs elt gt tc te) (hs : ∀ x, foldedSetIterable iter X.env x = pure x := by intro _; rfl) :
    DE X W g0 (.ListComp elt [⟨tg, iter, ifs, 0⟩] scope pos) (dLc t gt tc te (own.map (·.2))) :=
  PE.imp (pe_lc (g := fun v σ H Q => ∃ gb, liftG X.K gb (own.map (·.2)) gt v σ H Q) (tt := fun σ H Q => ∃ gb, liftB X.K noW gb tc σ H Q) (te := fun σ H Q => ∃ gb, lift X.K noW gb te σ H Q) C.cm C.nd hi ok
    (fun s H Ca cl fp => ⟨fun pins s' σ H v u Q I r ⟨gb, w⟩ => ((b.bk s _ Ca cl fp (C.blk s _ scope Ca cl fp) gb).1).run pins s' σ H v u Q I r w⟩)
    (fun s H Ca cl fp => ⟨fun pins s' σ H Q I ⟨gb, w⟩ => ((b.bk s _ Ca cl fp (C.blk s _ scope Ca cl fp) gb).2.1).run pins s' σ H Q I w⟩)
    (fun s H Ca cl fp => ⟨fun pins s' σ H Q I ⟨gb, w⟩ => ((b.bk s _ Ca cl fp (C.blk s _ scope Ca cl fp) gb).2.2).run pins s' σ H Q I w⟩) hs) fun σ H Q h => lift_lc h
theorem df_lc (C : Cn X W k) (hi : DI X W g0 tg iter t) (ok : BlkOk X.N X.env.scope scope own) (b : LcB X k scope own tg ifs elt gt tc te) (hs : ∀ x, foldedSetIterable iter X.env x = pure x := by intro _; rfl) :
    DF X W g0 (.ListComp elt [⟨tg, iter, ifs, 0⟩] scope pos) (dLc t gt tc te (own.map (·.2))) :=
  PE.imp (pe_lc (g := fun v σ H Q => ∃ gb, liftG X.K gb (own.map (·.2)) gt v σ H Q) (tt := fun σ H Q => ∃ gb, liftB X.K noW gb tc σ H Q) (te := fun σ H Q => ∃ gb, lift X.K noW gb te σ H Q) C.cm C.nd hi ok
    (fun s H Ca cl fp => ⟨fun pins s' σ H v u Q I r ⟨gb, w⟩ => ((b.bk s _ Ca cl fp (C.blk s _ scope Ca cl fp) gb).1).run pins s' σ H v u Q I r w⟩)
    (fun s H Ca cl fp => ⟨fun pins s' σ H Q I ⟨gb, w⟩ => ((b.bk s _ Ca cl fp (C.blk s _ scope Ca cl fp) gb).2.1).run pins s' σ H Q I w⟩)
    (fun s H Ca cl fp => ⟨fun pins s' σ H Q I ⟨gb, w⟩ => ((b.bk s _ Ca cl fp (C.blk s _ scope Ca cl fp) gb).2.2).run pins s' σ H Q I w⟩) hs) fun σ H Q h => liftF_lc h
/-- x = [..] on one line -/
theorem dp_setLc (i : Nat) {x : Str} (C : Cn X W k) (hi : DI X W g0 tg iter t) (ok : BlkOk X.N X.env.scope scope own) (b : LcB X k scope own tg ifs elt gt tc te) (hN : X.N[i]? = some x := by rfl) (hyl : X.env.scope.names.lookup x = some .local := by rfl)
    (hsw : swapsWith (.ListComp elt [⟨tg, iter, ifs, 0⟩] scope pos) (some (.Name x py)) spos.line X.env = pure true := by exact sw_true rfl rfl rfl (by decide +kernel)) (hs : ∀ x, foldedSetIterable iter X.env x = pure x := by intro _; rfl) :
    DP X W g0 (.Assign [.Name x py] (.ListComp elt [⟨tg, iter, ifs, 0⟩] scope pos) spos) (dSet i (dLc t gt tc te (own.map (·.2)))) :=
  PS.imp (ps_setLc (g := fun v σ H Q => ∃ gb, liftG X.K gb (own.map (·.2)) gt v σ H Q) (tt := fun σ H Q => ∃ gb, liftB X.K noW gb tc σ H Q) (te := fun σ H Q => ∃ gb, lift X.K noW gb te σ H Q) C.cm C.nd hN hyl hsw hi ok
    (fun s H Ca cl fp => ⟨fun pins s' σ H v u Q I r ⟨gb, w⟩ => ((b.bk s _ Ca cl fp (C.blk s _ scope Ca cl fp) gb).1).run pins s' σ H v u Q I r w⟩)
    (fun s H Ca cl fp => ⟨fun pins s' σ H Q I ⟨gb, w⟩ => ((b.bk s _ Ca cl fp (C.blk s _ scope Ca cl fp) gb).2.1).run pins s' σ H Q I w⟩)
    (fun s H Ca cl fp => ⟨fun pins s' σ H Q I ⟨gb, w⟩ => ((b.bk s _ Ca cl fp (C.blk s _ scope Ca cl fp) gb).2.2).run pins s' σ H Q I w⟩) hs) fun E σ H h => by
    obtain ⟨g, ρ, k, rfl, s0, e, t, l⟩ := h
    exact lift_lc ⟨g, ρ, _, _, rfl, s0, e, t, fun d hd v g' s r => l.nx _ _ g' (s0.trans s) ((e.step s).set r i) hd, l.xok s0 e⟩
theorem dp_ownLc (i : Nat) {x : Str} (C : Cn X W k) (hi : DI X W g0 tg iter t) (ok : BlkOk X.N X.env.scope scope own) (b : LcB X k scope own tg ifs elt gt tc te) (hN : X.N[i]? = some x := by rfl) (hyl : X.env.scope.names.lookup x = some .local := by rfl)
    (hsw : swapsWith (.ListComp elt [⟨tg, iter, ifs, 0⟩] scope pos) (some (.Name x py)) spos.line X.env = pure true := by exact sw_true rfl rfl rfl (by decide +kernel)) (hs : ∀ x, foldedSetIterable iter X.env x = pure x := by intro _; rfl) :
    DP X W g0 (.Assign [.Name x py] (.ListComp elt [⟨tg, iter, ifs, 0⟩] scope pos) spos) (dOwn i (dLc t gt tc te (own.map (·.2)))) :=
  PS.imp (ps_setLc (g := fun v σ H Q => ∃ gb, liftG X.K gb (own.map (·.2)) gt v σ H Q) (tt := fun σ H Q => ∃ gb, liftB X.K noW gb tc σ H Q) (te := fun σ H Q => ∃ gb, lift X.K noW gb te σ H Q) C.cm C.nd hN hyl hsw hi ok
    (fun s H Ca cl fp => ⟨fun pins s' σ H v u Q I r ⟨gb, w⟩ => ((b.bk s _ Ca cl fp (C.blk s _ scope Ca cl fp) gb).1).run pins s' σ H v u Q I r w⟩)
    (fun s H Ca cl fp => ⟨fun pins s' σ H Q I ⟨gb, w⟩ => ((b.bk s _ Ca cl fp (C.blk s _ scope Ca cl fp) gb).2.1).run pins s' σ H Q I w⟩)
    (fun s H Ca cl fp => ⟨fun pins s' σ H Q I ⟨gb, w⟩ => ((b.bk s _ Ca cl fp (C.blk s _ scope Ca cl fp) gb).2.2).run pins s' σ H Q I w⟩) hs) fun E σ H h => by
    obtain ⟨g, ρ, k, rfl, s0, e, t, l⟩ := h
    refine liftF_lc ⟨g, ρ, _, _, rfl, s0, e, t, fun d hd p g' s hp o => l.nx _ _ g' (s0.trans s) ((e.step s).setOwn o i fun j x hj h1 h2 => ?_) hd, l.xok s0 e⟩
    exact (e.free hp) j x h1 h2
end

/-! ### what changes one's own -/
theorem EnvOk.write {ρ : Rho} {i : Nat} {d d' : D} {p : Addr} {o : HO} (s0 : Step g0 g) (e : EnvOk X.K g0 g ρ σ) (hi : ρ[i]? = some (.ow d)) (hp : σ[i]? = some (some (.ref p))) (ho : OwnH X.K (g.own p o) p d') : Step g0 (g.own p o) ∧ EnvOk X.K g0 (g.own p o) (ρ.set i (.ow d')) σ := by
  obtain ⟨p', hp', ow⟩ := e.ow i d hi
  have ep : p' = p := by rw [hp] at hp'; injection (Option.some.inj hp') with z; cases z; rfl
  subst ep
  have ne : ∀ a o, g.G a = some o → a ≠ p' := fun a o h => ne_of_none h ow.ng
  have nM : ∀ a ∈ g.M, a ≠ p' := fun a h z => ow.nm (z ▸ h)
  have hl : i < ρ.length := (List.getElem?_eq_some_iff.mp hi).1
  have up : ∀ a, a ≠ p' → upd g.H p' o a = g.H a := fun a h => upd_ne h
  refine ⟨⟨s0.gs, s0.gn, s0.ms, s0.mn, fun a u h hm => ?_, ⟨fun a u h => ?_, s0.ok.dis, fun a hm => ?_⟩⟩, ⟨by rw [List.length_set]; exact e.len, fun j x h => ?_, fun j x h => ?_, fun j m x y q hjm h1 h2 h3 h4 => ?_⟩⟩
  · show upd g.H p' o a = some u
    rw [up a (ne_of_none h ow.n0)]
    exact s0.hs a u h hm
  · show upd g.H p' o a = some u ∨ _
    rw [up a (ne a u h)]
    rcases s0.ok.le a u h with q | ⟨q, ob, q2⟩
    · exact .inl q
    · refine .inr ⟨q, ob, ?_⟩
      show upd g.H p' o a = _
      rw [up a (ne a u h)]; exact q2
  · obtain ⟨l, ns, j, c, st, h1, h2⟩ := s0.ok.mok a hm
    refine ⟨l, ns, j, c, st, ?_, h2⟩
    show upd g.H p' o a = _
    rw [up a (nM a hm)]; exact h1
  · by_cases hj : i = j
    · subst hj; rw [List.getElem?_set_self hl] at h; cases h
    · rw [List.getElem?_set_ne hj] at h
      obtain ⟨v, a, b⟩ := e.fz j x h
      exact ⟨v, a, Rep.up (g := g) (g' := g.own p' o) (fun _ _ h => h) (fun _ h => h) b⟩
  · by_cases hj : i = j
    · subst hj
      rw [List.getElem?_set_self hl] at h; cases h
      exact ⟨p', hp', ow.n0, ow.ng, ow.nm, ho⟩
    · rw [List.getElem?_set_ne hj] at h
      obtain ⟨q, a, w⟩ := e.ow j x h
      have nq : q ≠ p' := fun z => e.ap i j d x p' hj hi h hp' (z ▸ a)
      refine ⟨q, a, w.n0, w.ng, w.nm, ?_⟩
      have at_ := w.at_
      have hq : ∀ u, g.H q = some u → upd g.H p' o q = some u := fun u hu => by rw [upd_ne nq]; exact hu
      cases x with
      | lst ds => obtain ⟨vs, z, r⟩ := at_; exact ⟨vs, hq _ z, Reps.up (g := g) (g' := g.own p' o) (fun _ _ h => h) (fun _ h => h) r⟩
      | dS ds => obtain ⟨vs, z, r⟩ := at_; exact ⟨vs, hq _ z, RepK.up (g := g) (g' := g.own p' o) (fun _ _ h => h) (fun _ h => h) r⟩
      | dT ds => obtain ⟨vs, z, r⟩ := at_; exact ⟨vs, hq _ z, RepT.up (g := g) (g' := g.own p' o) (fun _ _ h => h) (fun _ h => h) r⟩
      | _ => exact at_.elim
  · have up2 : ∀ (j : Nat) (x : D), (ρ.set i (.ow d'))[j]? = some (.ow x) → ∃ y, ρ[j]? = some (.ow y) := fun j x h => by
      by_cases hj : i = j
      · subst hj; exact ⟨d, hi⟩
      · rw [List.getElem?_set_ne hj] at h; exact ⟨x, h⟩
    obtain ⟨x', h1'⟩ := up2 j x h1
    obtain ⟨y', h2'⟩ := up2 m y h2
    exact e.ap j m x' y' q hjm h1' h2' h3 h4
/-- x.append(e), x one's own -/
@[simp] def dAppend (i : Nat) (t : DT) : DS := fun ρ k => t ρ (fun d => match ρ[i]? with
  | some (.ow (.lst ds)) => ds.length < 16777216 ∧ k.nx (ρ.set i (.ow (.lst (ds ++ [d]))))
  | _ => False) (k.ex ρ)
theorem EnvOk.val {K : PySem.W.Frag} {ρ : Rho} (e : EnvOk K g0 g ρ σ) {i : Nat} {ds : List D} (h : ρ[i]? = some (.ow (.lst ds))) : ∃ p vs, σ[i]? = some (some (.ref p)) ∧ g.H p = some (.lst vs) ∧ Reps K g vs ds := by
  obtain ⟨p, a, o⟩ := e.ow i _ h
  obtain ⟨vs, z, r⟩ := o.at_
  exact ⟨p, vs, a, z, r⟩
/-- x is one's own list -/
@[simp] def dIsOwn (i : Nat) (t : DS) : DS := fun ρ k => (match ρ[i]? with
  | some (.ow (.lst _)) => True
  | _ => False) ∧ t ρ k
theorem dp_append (i : Nat) {x : Str} {e : Expr} {te : DT} {p1 p2 p3 p4 : Pos} (he : DE X W g0 e te) (hN : X.N[i]? = some x := by rfl) (hv : Vis X.env.scope x := by first | exact Or.inl rfl | exact Or.inr (Or.inl rfl) | exact Or.inr (Or.inr rfl)) (hd : (x == ("__debug__" : Str)) = false := by decide)
    (hcd : (x == ("__classdict__" : Str)) = false := by decide) (hline : (p2.endLine == p3.line) = true := by rfl) (hsw : swapsWith (.Call (.Attribute (.Name x p1) "append" p2) [e] [] p3) none p4.line X.env = pure false := by rfl)
    (hbase : attributeBase (.Name x p1) "append" X.env (eval (.Name x p1) X.env) = eval (.Name x p1) X.env := by rfl)
    (hfew : ((backTo p3 (starEach [e] X.env)).all (fun x => !x.1) && (backToKw p3 (keywordEach [] X.env)).all (fun x => x.1.isSome) && decide ([e].length + ([] : List Keyword).length + (if ([] : List Keyword).isEmpty then 0 else 1) < 30)) = true := by rfl)
    (hs : starEach [e] X.env = (false, eval e X.env) :: starEach [] X.env := by rfl) (hpl : (backTo p3 (starEach [] X.env)).any (·.1) = false := by rfl) :
    DP X W g0 (.Expr (.Call (.Attribute (.Name x p1) "append" p2) [e] [] p3) p4) (dIsOwn i (dAppend i te)) :=
  PS.imp (ps_expr (pe_bm PySem.F.plainAttrs_list PySem.F.slot_list_append PySem.F.type_list_append mt_append (pe_var hN hv hd hcd) (pa_cons he pa_nil hs) hbase hfew hline hs hpl) hsw) fun E σ H h => by
    obtain ⟨g, ρ, k, rfl, s0, en, ⟨ow, t⟩, l⟩ := h
    split at ow
    · rename_i ds0 h0
      obtain ⟨p, vs, hp, hH, r⟩ := en.val h0
      refine ⟨.ref p, hp, .inl ⟨rfl, vs, SqL.of hH⟩, ?_⟩
      refine ⟨g, ρ, _, _, rfl, s0, en, t, fun d hd v g1 s1 r1 => ?_, l.xok s0 en⟩
      simp only [h0] at hd
      obtain ⟨p', vs', hp', hH', r'⟩ := (en.step s1).val h0
      rw [hp] at hp'
      cases hp'
      refine ⟨p, vs', v, rfl, rfl, hH', by rw [r'.length, sizeLine_eq]; exact hd.1, ?_⟩
      obtain ⟨s2, e2⟩ := (en.step s1).write (o := .lst (vs' ++ [v])) (d' := .lst (ds0 ++ [d])) (s0.trans s1) h0 hp ⟨_, upd_same, Reps.up (g := g1) (g' := g1.own p _) (fun _ _ h => h) (fun _ h => h) (Reps.append r' (.cons r1 .nil))⟩
      exact l.nx _ _ _ s2 e2 hd.2
    · exact ow.elim
end
end AU

/-! AuHand: constants of the module, name op= e, a, b = x, y; the law's draws. -/
namespace AU
open PySem L2 PySem.Spec PyProof.Rows

/-- the module's x stands for d -/
def Cs (K : PySem.W.Frag) (mg : Str → Option Value) (x : Str) (d : D) : Prop := ∃ (v : V) (u : Value), mg x = some u ∧ RelV v u ∧ ∀ g : Gh, Rep K g v d
section
variable {X : Cx} {W : WX} {g0 g : Gh} {σ : L2.St} {pos : Pos}
theorem de_cs {x : Str} {d : D} (h : Cs X.K X.mg x d) (hg : Gl X x := by rfl) (hd : (x == ("__debug__" : Str)) = false := by decide) : DE X W g0 (.Name x pos) (dC d) := by
  obtain ⟨v, u, hm, r, rd⟩ := h
  exact de_glob hm r rd hg hd
/-- name op= e on whole numbers -/
@[simp] def dAug (i : Nat) (te : DT) (f : Int → Int → Int) : DS := fun ρ k => match ρ[i]? with
  | some (.fz (.int a)) => te ρ (onI fun b => k.nx (ρ.set i (.fz (.int (f a b))))) (k.ex ρ)
  | _ => False
theorem dp_aug (i : Nat) {x : Str} {e : Expr} {te : DT} {op : Operator} {f : Int → Int → Int} {pos' : Pos} (hN : X.N.Nodup) (ho : PIp X op (ipI f)) (he : DE X W g0 e te) (hi : X.N[i]? = some x := by rfl) (hx : Loc X.env.scope x := by first | exact Or.inl rfl | exact Or.inr rfl)
    (hf : X.fn x = true ∨ X.env.scope.names.lookup x = some .local := by first | exact .inl rfl | exact .inr rfl | assumption) : DP X W g0 (.AugAssign (.Name x pos') op e pos) (dAug i te f) := PS.imp (ps_aug hN hi hx he ho hf) fun E σ H h => by
  obtain ⟨g, ρ, k, rfl, s0, e, t, l⟩ := h
  unfold dAug at t
  split at t
  · rename_i a ha
    obtain ⟨v, hv, rv⟩ := e.fz i _ ha
    cases rv
    refine ⟨_, hv, g, ρ, _, _, rfl, s0, e, t, fun d hd v g' s r => ?_, l.xok s0 e⟩
    obtain ⟨b, rfl, hb⟩ := hd.out
    cases r
    exact ⟨a, b, rfl, rfl, l.nx _ _ g' (s0.trans s) ((e.step s).set (.int _) i) hb⟩
  · exact t.elim
/-- a, b = x, y -/
@[simp] def dPar (i j : Nat) (ta : DA) : DS := fun ρ k => ta ρ (fun ds => match ds with
  | [a, b] => k.nx ((ρ.set i (.fz a)).set j (.fz b))
  | _ => False) (k.ex ρ)
theorem dp_par (i j : Nat) {x y : Str} {a b : Expr} {ta : DA} {px py pt : Pos} {kt k2 pt2} {k : Nat} (C : Cn X W k) (hij : i ≠ j) (ha : DPA X W g0 [a, b] ta)
    (hw : swappedStores [.Tuple [.Name x px, .Name y py] kt pt] (.Tuple [a, b] k2 pt2) X.env = pure (some [x, y])) (hi : X.N[i]? = some x := by rfl) (hj : X.N[j]? = some y := by rfl)
    (hx : X.env.scope.names.lookup x = some .local := by rfl) (hy : X.env.scope.names.lookup y = some .local := by rfl)
    (hs : swapsWithSole [.Tuple [.Name x px, .Name y py] kt pt] (.Tuple [a, b] k2 pt2) pos.line X.env = pure false := by rfl) :
    DP X W g0 (.Assign [.Tuple [.Name x px, .Name y py] kt pt] (.Tuple [a, b] k2 pt2) pos) (dPar i j ta) := PS.imp (ps_par C.cm C.nd hi hj hij hx hy ha hw hs) fun E σ H h => by
  obtain ⟨g, ρ, k, rfl, s0, e, t, l⟩ := h
  refine ⟨g, ρ, _, _, rfl, s0, e, t, fun ds hd vs g' s r => ?_, l.xok s0 e⟩
  split at hd
  · cases r with
    | cons r1 r2 => cases r2 with
      | cons r2 r3 => cases r3; exact ⟨_, _, rfl, l.nx _ _ g' (s0.trans s) (((e.step s).set r1 i).set r2 j) hd⟩
  · exact hd.elim

/-! ### the law's draws -/
/-- [list(script), 0, 0, 7] -/
def dBegin : DS := fun ρ k => ∃ ns, ρ = [.fz (.scr ns)] ∧ k.rt .drw
def tBegin : TS := L2.tRet (tLst (tCons (tCB (fun xs H Q => ∃ p ys, xs = [.ref p] ∧ (SqL X.K H p ys ∨ SqT X.K H p ys) ∧ ∀ l, H l = none → Q (.ref l) (upd H l (.lst ys))) (tCons (tVar 0) tNil)) (tCons (tC (.int 0)) (tCons (tC (.int 0)) (tCons (tC (.int 7)) tNil)))))
theorem drw_new {K : PySem.W.Frag} {g : Gh} (h : Hold g) {p l : Addr} {ns : List Int} {i c st : Int} (hp : g.H p = none) (hl : g.G l = some (.lst (ns.map V.int))) (hn : ns.length ≤ 63) (hi : 0 ≤ i) (hc : 0 ≤ c) :
    Step g ⟨g.G, p :: g.M, upd g.H p (.lst [.ref l, .int i, .int c, .int st])⟩ := by
  have s := h.own (.lst [.ref l, .int i, .int c, .int st]) hp
  refine ⟨fun _ _ e => e, fun _ _ e => .inl e, fun a ha => List.mem_cons_of_mem _ ha, fun a ha => ?_, s.hs, ⟨s.ok.le, fun a ha => ?_, fun a ha => ?_⟩⟩
  · rcases List.mem_cons.mp ha with q | q
    · exact .inr (q ▸ hp)
    · exact .inl q
  · rcases List.mem_cons.mp ha with q | q
    · rw [q]; exact h.free hp
    · exact h.dis a q
  · rcases List.mem_cons.mp ha with q | q
    · subst q; exact ⟨l, ns, i, c, st, upd_same, hl, hn, hi, hc⟩
    · exact s.ok.mok a q
theorem begin_sound {E : Ends} {H : Hp} (h : liftS X.K W g0 dBegin E σ H) : tBegin (X := X) E σ H := by
  obtain ⟨g, ρ, k, rfl, s0, e, ⟨ns, rfl, w⟩, lk⟩ := h
  obtain ⟨v, hv, r⟩ := e.fz 0 _ rfl
  cases r with
  | scr hq hn =>
    rename_i a
    refine ⟨_, hv, ?_⟩
    refine ⟨a, _, rfl, .inl (s0.ok.sqL hq), fun l hl => ?_⟩
    refine ⟨by show 4 ≤ sizeLine; rw [sizeLine_eq]; decide, fun p hp => ?_⟩
    have s1 := s0.ok.new (.lst (ns.map V.int)) hl
    have s2 := drw_new (K := X.K) s1.ok (ns := ns) (l := l) (i := 0) (c := 0) (st := 7) hp upd_same hn (Int.le_refl 0) (Int.le_refl 0)
    exact lk.rt .drw _ _ (s0.trans (s1.trans s2)) (.drw List.mem_cons_self) w
theorem drw_put {p l : Addr} {ns : List Int} {i c st : Int} (s0 : Step g0 g) (hp : p ∈ g.M) (hl : g.G l = some (.lst (ns.map V.int))) (hn : ns.length ≤ 63) (hi : 0 ≤ i) (hc : 0 ≤ c) : Step g0 (g.own p (.lst [.ref l, .int i, .int c, .int st])) := by
  have ne : ∀ a o, g.G a = some o → a ≠ p := fun a o h z => by
    rw [z, s0.ok.dis p hp] at h; cases h
  refine ⟨s0.gs, s0.gn, s0.ms, s0.mn, fun a u h hm => ?_, ⟨fun a u h => ?_, s0.ok.dis, fun a hm => ?_⟩⟩
  · have np : a ≠ p := fun z => by
      rcases s0.mn p hp with q | q
      · exact hm (z ▸ q)
      · rw [z, q] at h; cases h
    show upd g.H p _ a = some u
    rw [upd_ne np]
    exact s0.hs a u h hm
  · show upd g.H p _ a = some u ∨ _
    rw [upd_ne (ne a u h)]
    rcases s0.ok.le a u h with q | ⟨q, ob, q2⟩
    · exact .inl q
    · refine .inr ⟨q, ob, ?_⟩
      show upd g.H p _ a = _
      rw [upd_ne (ne a u h)]; exact q2
  · by_cases ha : a = p
    · subst ha; exact ⟨l, ns, i, c, st, upd_same, hl, hn, hi, hc⟩
    · obtain ⟨l, ns, j, c, st, h1, h2⟩ := s0.ok.mok a hm
      refine ⟨l, ns, j, c, st, ?_, h2⟩
      show upd g.H p _ a = _
      rw [upd_ne ha]; exact h1
def dDraw : DS := fun ρ k => ∃ n : Int, ρ = [.fz .drw, .fz (.int n), .un, .un] ∧ 0 < n ∧ n < 1073741824 ∧ ∀ r, 0 ≤ r → r < n → k.rt (.int r)
section
variable (X)
abbrev tAt (k : Int) : TE := tOp (rIx X.K) (tVar 0) (tC (.int k))
abbrev tInt (t : TE) : TE := tCB (fun xs H Q => (∃ i, xs = [.int i] ∧ Q (.int i) H) ∨ ∃ k, xs = [.bl k] ∧ Q (.int (if k then 1 else 0)) H) (tCons t tNil)
abbrev rPls : R2 := rI0 fun i j => .int (i + j)
abbrev rTms : R2 := rI IntMulOk fun i j => .int (i * j)
abbrev rRst : R2 := rI (fun _ j => 0 < j) fun i j => .int (i % j)
abbrev tPut (k : Int) (t : TE) : TS := L2.tAsg t (gSub (tVar 0) (tC (.int k)) rSetL)
def tDraw : TS := L2.tSeq (L2.tIfS (tTest (tOp rEq (tAt X 2) (tC (.int 0))))
    (L2.tIfS (tTest (tOp (rI0 fun i j => .bl (decide (i < j))) (tAt X 1) (tCB (fun xs H Q => ∃ p ys, xs = [.ref p] ∧ (SqL X.K H p ys ∨ SqT X.K H p ys) ∧ Q (.int ys.length) H) (tCons (tAt X 0) tNil))))
      (L2.tSeq (L2.tAsg (tOp (rIx X.K) (tAt X 0) (tAt X 1)) (gName 2)) (L2.tSeq (tPut 1 (tOp rPls (tAt X 1) (tC (.int 1))))
        (L2.tIfS (tTest (tOp (rI0 fun i j => .bl (decide (j ≤ i))) (tVar 2) (tOp (rI CPow fun i j => .int (i ^ j.toNat)) (tC (.int 10)) (tC (.int 18))))) (tPut 2 (tVar 2))
          (tPut 3 (tOp rRst (tInt (tOp rPls (tOp rPls (tOp rTms (tAt X 3) (tC (.int 48271))) (tOp rTms (tVar 2) (tC (.int 69621)))) (tC (.int 11)))) (tC (.int 2147483647)))))))
      (tPut 3 (tOp rRst (tInt (tOp rPls (tOp rTms (tAt X 3) (tC (.int 48271))) (tC (.int 7)))) (tC (.int 2147483647))))) tNext)
  (L2.tSeq (L2.tIfS (tTest (tOp (rI0 fun i j => .bl (decide (j < i))) (tAt X 2) (tC (.int 0))))
      (L2.tSeq (L2.tAsg (tOp rRst (tInt (tAt X 2)) (tVar 1)) (gName 3)) (L2.tSeq (tPut 2 (tOp (rI CDiv fun i j => .int (i / j)) (tAt X 2) (tVar 1))) (L2.tRet (tVar 3)))) tNext)
    (L2.tRet (tOp rRst (tOp rRst (tInt (tOp rTms (tAt X 3) (tC (.int 16807)))) (tC (.int 2147483629))) (tVar 1))))
end
/-- where the draws stand: the list at p -/
structure DrwS (X : Cx) (g0 : Gh) (n : Int) (p : Addr) (σ : L2.St) (g : Gh) : Prop where
  st : Step g0 g
  v0 : σ[0]? = some (some (.ref p))
  v1 : σ[1]? = some (some (.int n))
  ln : σ.length = 4
  pm : p ∈ g.M
theorem at_read {p : Addr} {xs : List V} {k : Int} {v : V} {H : Hp} {Q : VK} (h0 : σ[0]? = some (some (.ref p))) (hp : H p = some (.lst xs)) (ha : atI xs k = some v) (q : Q v H) : tAt X k σ H Q :=
  ⟨_, h0, .inl ⟨p, xs, k, v, rfl, rfl, SqL.of hp, ha, q⟩⟩
theorem ite_t {p : Prop} [Decidable p] (h : p) {A B : Prop} (a : A) : if decide p = true then A else B := by rw [if_pos (decide_eq_true h)]; exact a
theorem ite_f {p : Prop} [Decidable p] (h : ¬ p) {A B : Prop} (a : B) : if decide p = true then A else B := by rw [if_neg (by rw [decide_eq_false h]; exact Bool.false_ne_true)]; exact a
theorem draw_tail {n : Int} {p : Addr} {E : Ends} {g : Gh} (d : DrwS X g0 n p σ g) (h1 : 0 < n) (h2 : n < 1073741824) (hk : ∀ (r : Int) (g' : Gh), 0 ≤ r → r < n → Step g0 g' → E.rt (.int r) g'.H) :
    (L2.tSeq (L2.tIfS (tTest (tOp (rI0 fun i j => .bl (decide (j < i))) (tAt X 2) (tC (.int 0))))
      (L2.tSeq (L2.tAsg (tOp rRst (tInt (tAt X 2)) (tVar 1)) (gName 3)) (L2.tSeq (tPut 2 (tOp (rI CDiv fun i j => .int (i / j)) (tAt X 2) (tVar 1))) (L2.tRet (tVar 3)))) tNext)
    (L2.tRet (tOp rRst (tOp rRst (tInt (tOp rTms (tAt X 3) (tC (.int 16807)))) (tC (.int 2147483629))) (tVar 1)))) E σ g.H := by
  obtain ⟨l, ns, i, c, st, hH, hG, hn, hi, hc⟩ := d.st.ok.mok p d.pm
  refine at_read d.v0 hH rfl ⟨_, _, rfl, rfl, _, rfl, ?_⟩
  by_cases hc0 : 0 < c
  · refine ite_t hc0 ?_
    have v0 : (σ.set 3 (some (.int (c % n))))[0]? = some (some (.ref p)) := by rw [List.getElem?_set_ne (by decide)]; exact d.v0
    have v1 : (σ.set 3 (some (.int (c % n))))[1]? = some (some (.int n)) := by rw [List.getElem?_set_ne (by decide)]; exact d.v1
    have v3 : (σ.set 3 (some (.int (c % n))))[3]? = some (some (.int (c % n))) := by rw [List.getElem?_set_self (by rw [d.ln]; decide)]
    refine at_read d.v0 hH rfl (.inl ⟨c, rfl, _, d.v1, c, n, rfl, rfl, h1, ?_⟩)
    refine at_read v0 hH rfl ⟨_, v1, _, _, rfl, rfl, ⟨h1, h2⟩, _, v0, p, _, 2, 2, rfl, rfl, hH, rfl, _, v3, ?_⟩
    exact hk _ (g.own p (.lst [.ref l, .int i, .int (c / n), .int st])) (Int.emod_nonneg _ (by omega)) (Int.emod_lt_of_pos _ h1) (drw_put d.st d.pm hG hn hi (Int.ediv_nonneg hc (by omega)))
  · refine ite_f hc0 ?_
    refine at_read d.v0 hH rfl ⟨_, _, rfl, rfl, IntMulOk.of_right (by decide +kernel), .inl ⟨_, rfl, _, _, rfl, rfl, (show (0 : Int) < 2147483629 by decide), _, d.v1, _, _, rfl, rfl, h1, ?_⟩⟩
    exact hk _ g (Int.emod_nonneg _ (by omega)) (Int.emod_lt_of_pos _ h1) d.st
theorem draw_sound {E : Ends} {H : Hp} (h : liftS X.K W g0 dDraw E σ H) : tDraw X E σ H := by
  obtain ⟨g, ρ, k, rfl, s0, e, ⟨n, rfl, h1, h2, w⟩, lk⟩ := h
  obtain ⟨v, v0, r0⟩ := e.fz 0 _ rfl
  obtain ⟨v', v1, r1⟩ := e.fz 1 _ rfl
  cases r0 with
  | drw pm =>
    rename_i p
    cases r1
    have ln : σ.length = 4 := e.len.symm
    have hk : ∀ (r : Int) (g' : Gh), 0 ≤ r → r < n → Step g0 g' → E.rt (.int r) g'.H := fun r g' a b s => lk.rt (.int r) _ g' s (.int r) (w r a b)
    obtain ⟨l, ns, i, c, st, hH, hG, hn, hi, hc⟩ := s0.ok.mok p pm
    have hl : g.H l = some (.lst (ns.map V.int)) := s0.ok.lst hG
    unfold tDraw
    refine at_read v0 hH rfl ⟨rfl, _, rfl, ?_⟩
    by_cases hc0 : V.int c = V.int 0
    · refine ite_t hc0 ?_
      refine at_read v0 hH rfl (at_read v0 hH rfl ⟨l, _, rfl, .inl (SqL.of hl), _, _, rfl, rfl, _, rfl, ?_⟩)
      by_cases hi2 : i < ((ns.map V.int).length : Int)
      · refine ite_t hi2 ?_
        have hx : ixN (ns.map V.int).length i = some i.toNat := by unfold ixN; rw [if_pos hi, if_pos hi2]
        have hlt : i.toNat < ns.length := by rw [List.length_map] at hi2; omega
        have ha : atI (ns.map V.int) i = some (.int ns[i.toNat]) := by unfold atI; rw [hx]; show (ns.map V.int)[i.toNat]? = _; rw [List.getElem?_map, List.getElem?_eq_getElem hlt]; rfl
        generalize ns[i.toNat] = z at ha
        refine at_read v0 hH rfl (at_read v0 hH rfl (.inl ⟨l, _, i, _, rfl, rfl, SqL.of hl, ha, ?_⟩))
        have v0' : (σ.set 2 (some (.int z)))[0]? = some (some (.ref p)) := by rw [List.getElem?_set_ne (by decide)]; exact v0
        have v1' : (σ.set 2 (some (.int z)))[1]? = some (some (.int n)) := by rw [List.getElem?_set_ne (by decide)]; exact v1
        have v2' : (σ.set 2 (some (.int z)))[2]? = some (some (.int z)) := by rw [List.getElem?_set_self (by rw [ln]; decide)]
        have ln' : (σ.set 2 (some (V.int z))).length = 4 := by rw [List.length_set]; exact ln
        refine at_read v0' hH rfl ⟨_, _, rfl, rfl, _, v0', p, _, 1, 1, rfl, rfl, hH, rfl, ?_⟩
        have s1 := drw_put (i := i + 1) (c := c) (st := st) s0 pm hG hn (by omega) hc
        have hH1 : (g.own p (.lst [.ref l, .int (i + 1), .int c, .int st])).H p = some (.lst [.ref l, .int (i + 1), .int c, .int st]) := upd_same
        refine ⟨_, v2', _, _, rfl, rfl, ⟨by decide, by decide, by decide⟩, _, _, rfl, rfl, _, rfl, ?_⟩
        by_cases hz : (10 : Int) ^ (18 : Int).toNat ≤ z
        · refine ite_t hz ?_
          refine ⟨_, v2', _, v0', p, _, 2, 2, rfl, rfl, hH1, rfl, ?_⟩
          have hz0 : 0 ≤ z := Int.le_trans (by decide) hz
          exact draw_tail ⟨drw_put (i := i + 1) (c := z) (st := st) s1 pm hG hn (by omega) hz0, v0', v1', ln', pm⟩ h1 h2 hk
        · refine ite_f hz ?_
          refine at_read v0' hH1 rfl ⟨_, _, rfl, rfl, IntMulOk.of_right (by decide +kernel), _, v2', _, _, rfl, rfl, IntMulOk.of_right (by decide +kernel), _, _, rfl, rfl, _, _, rfl, rfl, .inl ⟨_, rfl, _, _, rfl, rfl, (show (0 : Int) < 2147483647 by decide), _, v0', p, _, 3, 3, rfl, rfl, hH1, rfl, ?_⟩⟩
          exact draw_tail ⟨drw_put (i := i + 1) (c := c) (st := _) s1 pm hG hn (by omega) hc, v0', v1', ln', pm⟩ h1 h2 hk
      · refine ite_f hi2 ?_
        refine at_read v0 hH rfl ⟨_, _, rfl, rfl, IntMulOk.of_right (by decide +kernel), _, _, rfl, rfl, .inl ⟨_, rfl, _, _, rfl, rfl, (show (0 : Int) < 2147483647 by decide), _, v0, p, _, 3, 3, rfl, rfl, hH, rfl, ?_⟩⟩
        exact draw_tail ⟨drw_put (i := i) (c := c) (st := _) s0 pm hG hn hi hc, v0, v1, ln, pm⟩ h1 h2 hk
    · refine ite_f hc0 ?_
      exact draw_tail ⟨s0, v0, v1, ln, pm⟩ h1 h2 hk
end
end AU

/-! AuHead: the head's Hook with one more Bool; the module's constants; the exception classes; the law's row. -/
namespace AU
open PySem L2 PySem.Spec PyProof.Rows
abbrev AlE : Type := He.AlD × Bool
def obsEG (n : Nat) (fa : List He.Fa) (fn : List He.DefD) (ex : PySem.W.Frag → Bool) (g : Addr → Option Obj) : AlE := (He.obsD fa fn (He.frG g (He.asD g n)), ex (He.frG g (He.asD g n)))
def SaysE (fa : List He.Fa) (fn : List He.DefD) (ex : PySem.W.Frag → Bool) (K : PySem.W.Frag) : Prop := He.SaysD fa fn K ∧ ex K = true
def hookE (n : Nat) (fa : List He.Fa) (fn : List He.DefD) (ex : PySem.W.Frag → Bool) : PySem.W.Hook where
  α := AlE
  obs := fun s => obsEG n fa fn ex s.heap.get?
  val := fun _ => (He.valD fn, true)
  says := fun _ h => ∃ K : PySem.W.Frag, K.In h ∧ SaysE fa fn ex K
  of := fun _ _ e => ⟨_, He.frG_in, congrArg (fun z : AlE => z.1) e, congrArg (fun z : AlE => z.2) e⟩
  keeps := fun _ _ _ ⟨K, hK, c⟩ k => ⟨K, PySem.W.Frag.In.keeps hK k, c⟩
theorem obsEG_eq {n : Nat} {fa : List He.Fa} {fn : List He.DefD} {ex : PySem.W.Frag → Bool} {g : Addr → Option Obj} {s : Shared} (h : ∀ a, g a = s.heap.get? a) : obsEG n fa fn ex g = (hookE n fa fn ex).obs s := by
  have e : g = s.heap.get? := funext h
  rw [e] <;> rfl
section
variable {K : PySem.W.Frag} {h : Heap} {mg : Str → Option Value}
theorem cs_int (X : K.In h) (G : h.Ns mainGlobals mg) {x : Str} {i : Int} (c : (He.Fa.int x i).ok K = true) : Cs K mg x (.int i) := by
  obtain ⟨t, e⟩ := He.int_ok X G c
  exact ⟨.int i, _, e, ⟨t, rfl⟩, fun g => .int i⟩
theorem cs_str (X : K.In h) (G : h.Ns mainGlobals mg) {x z : Str} (c : (He.Fa.str x z).ok K = true) : Cs K mg x (.str z) := by
  obtain ⟨t, e⟩ := He.str_ok X G c
  exact ⟨.str z, _, e, ⟨t, rfl⟩, fun g => .str z⟩
theorem dvs_str : ∀ (zs : List Str), (zs.map He.Dv.str).map (He.Dv.v K) = zs.map V.str
  | [] => rfl
  | z :: zs => by rw [List.map_cons, List.map_cons, dvs_str zs]; rfl
theorem cs_tup (X : K.In h) (G : h.Ns mainGlobals mg) {x : Str} {zs : List Str} (c : (He.Fa.glo x).ok K = true) (t : He.tupB K x (zs.map He.Dv.str) = true) : Cs K mg x (.tup (zs.map D.str)) := by
  refine ⟨.ref (He.ga K x), _, He.glo_ok X G c, rfl, fun g => ?_⟩
  have h := He.tupB_ok t g.G
  rw [dvs_str] at h
  exact .tup h (reps_strs zs)
theorem xcls (X : K.In h) (G : h.Ns mainGlobals mg) {x : Str} (c : (He.Fa.glo x).ok K = true) (e : (He.Fa.exc x).ok K = true) : XCls K mg x := by
  obtain ⟨h1, h2, h3, h4⟩ := He.exc_ok e
  exact ⟨h1, He.glo_ok X G c, h2, h3, h4⟩
theorem bi_of (X : K.In h) (G : h.Ns mainGlobals mg) (c : (biN.all fun x => (He.Fa.free x).ok K) = true) : Bi mg := fun x hx => He.free_ok X G (List.all_eq_true.mp c x hx)
end
/-- a def of the module as it stands -/
def Df (K : PySem.W.Frag) (mg : Str → Option Value) (st : Stmt) (x : Str) : Prop := ∃ fd, FunD K x x (defArgs st) (defBody st) (defScope st) [] [] (He.ga K x) fd ∧ mg x = some (.ref (He.ga K x))
def S_no : Spec := fun _ _ _ => False
theorem fn_no {P : Program} {w : World} {K : PySem.W.Frag} {mg : Str → Option Value} {base : Heap} {x y qual : Str} {params : Arguments} {body : List Stmt} {scope : Scope} {f : Addr} {fd : FuncData} {N ps : List Str} {k : Nat}
    (F : FunD K x qual params body scope [] [] f fd) (Sc : FnScope N ps scope) (hm : mg y = some (.ref f))
    (hb : ∀ (kV doc pm : Value) (an : Option Addr) (cdv ct : Value) (us : List Value), us.length = ps.length → bindArgs (PySem.W.fnOf x qual params body scope .none kV doc pm an cdv ct) ⟨us, []⟩ = pure (ps.zip us)) : Fn P w K mg base (k + 1) y S_no :=
  fn_mk F (fnD F Sc (t := dNever) (fun cdv A outer s H E g0 C => dps_never) (fun _ _ _ h => h.elim) (fun _ _ _ h => h.elim)) hm hb

/-- a def that raises nothing, in a context of no exceptions -/
theorem fn_cx0 {P : Program} {w : World} {K : PySem.W.Frag} {mg : Str → Option Value} {base : Heap} {k : Nat} {f : Addr} {fd : FuncData} {ps : List Str} {sp : Sp} (F : FnOk P w K mg base (L2.CX P w) k f fd ps sp) :
    FnOk P w K mg base L2.CX0 k f fd ps (fun vs H Q _ => sp vs H Q fun _ _ _ => False) :=
  ⟨fun vs H Q _ h => F.len vs H Q _ h, fun A outer s H args us vs Q E hr he hb hv hs => codeAny_mono (F.run A outer s H args us vs Q _ hr he hb hv hs) fun r s' h => by
    cases r with
    | ok c => cases c <;> exact h
    | error e =>
      obtain ⟨_, _, _, _, _, _, _, _, _, _, _, _, z⟩ := (show L2.CX P w outer H s (fun _ _ _ => False) e s' from h)
      exact z⟩
/-- the law's spec: at every script it hands back True -/
def spLaw : Spec := fun ds P _ => ∃ ns, ds = [.scr ns] ∧ P (.bl true)
theorem law_start {K : PySem.W.Frag} {H : Hp} {a : Addr} {ns : List Int} (hl : ns.length ≤ 63) (hS : SqL K H a (ns.map V.int)) (hO : Only H) : spD K spLaw [.ref a] H (fun v _ => v = .bl true) fun _ _ _ => False := by
  refine ⟨⟨H, [], H⟩, [.scr ns], fun d => d = .bl true, fun _ => False, rfl, ⟨fun a o e => .inl e, fun a h => (by cases h), fun a h => (by cases h)⟩, .cons (.scr hS hl) .nil, ⟨ns, rfl, rfl⟩, fun d hd v g' s r => ?_, fun c h => h.elim⟩
  subst hd
  cases r
  rfl
end AU

/-! AuCalls: calls of built-ins by names. -/
namespace AU
open PySem L2 PySem.Spec PyProof.Rows
theorem bt_len : bootBuiltins ("len" : Str) = some (.builtin "len") := by decide +kernel
theorem bt_all : bootBuiltins ("all" : Str) = some (.builtin "all") := by decide +kernel
theorem bt_sum : bootBuiltins ("sum" : Str) = some (.builtin "sum") := by decide +kernel
theorem bt_max : bootBuiltins ("max" : Str) = some (.builtin "max") := by decide +kernel
theorem bt_abs : bootBuiltins ("abs" : Str) = some (.builtin "abs") := by decide +kernel
theorem bt_int : bootBuiltins ("int" : Str) = some (.type "int") := by decide +kernel
theorem bt_list : bootBuiltins ("list" : Str) = some (.type "list") := by decide +kernel
theorem bt_tuple : bootBuiltins ("tuple" : Str) = some (.type "tuple") := by decide +kernel
section
variable {X : Cx} {W : WX} {g0 : Gh} {k : Nat} {e e2 : Expr} {t t2 : DT} {ts : DA} {p pos : Pos}
theorem dc_len (B : Bi X.mg) (ha : DPA X W g0 [e] ts) (hg : Gl X "len" := by rfl) (he : starEach [e] X.env = (false, eval e X.env) :: starEach [] X.env := by rfl) (hpl : (backTo pos (starEach [] X.env)).any (·.1) = false := by rfl) :
    DE X W g0 (.Call (.Name "len" p) [e] [] pos) (dB (on1 fLen) ts) := de_callB call_len rel_len (B.at_ "len") bt_len ha hg (by decide) (by decide) he hpl
theorem dc_all (C : Cn X W k) (B : Bi X.mg) (ha : DPA X W g0 [e] ts) (hg : Gl X "all" := by rfl) (he : starEach [e] X.env = (false, eval e X.env) :: starEach [] X.env := by rfl) (hpl : (backTo pos (starEach [] X.env)).any (·.1) = false := by rfl) :
    DE X W g0 (.Call (.Name "all" p) [e] [] pos) (dB (on1 fAll) ts) := de_callB (cr_all C.cm) rel_all (B.at_ "all") bt_all ha hg (by decide) (by decide) he hpl
theorem dc_sum (C : Cn X W k) (B : Bi X.mg) (ha : DPA X W g0 [e] ts) (hg : Gl X "sum" := by rfl) (he : starEach [e] X.env = (false, eval e X.env) :: starEach [] X.env := by rfl) (hpl : (backTo pos (starEach [] X.env)).any (·.1) = false := by rfl) :
    DE X W g0 (.Call (.Name "sum" p) [e] [] pos) (dB (on1 fSum) ts) := de_callB (cr_sum C.cm) rel_sum (B.at_ "sum") bt_sum ha hg (by decide) (by decide) he hpl
theorem dc_maxL (C : Cn X W k) (B : Bi X.mg) (ha : DPA X W g0 [e] ts) (hg : Gl X "max" := by rfl) (he : starEach [e] X.env = (false, eval e X.env) :: starEach [] X.env := by rfl) (hpl : (backTo pos (starEach [] X.env)).any (·.1) = false := by rfl) :
    DE X W g0 (.Call (.Name "max" p) [e] [] pos) (dB (on1 fMaxL) ts) := de_callB (cr_max C.cm) rel_maxL (B.at_ "max") bt_max ha hg (by decide) (by decide) he hpl
theorem dc_max2 (C : Cn X W k) (B : Bi X.mg) (ha : DPA X W g0 [e, e2] ts) (hg : Gl X "max" := by rfl) (he : starEach [e, e2] X.env = (false, eval e X.env) :: starEach [e2] X.env := by rfl) (hpl : (backTo pos (starEach [e2] X.env)).any (·.1) = false := by rfl) :
    DE X W g0 (.Call (.Name "max" p) [e, e2] [] pos) (dB fMax2 ts) := de_callB (call_max2 C.cm) rel_max2 (B.at_ "max") bt_max ha hg (by decide) (by decide) he hpl
theorem dc_abs (B : Bi X.mg) (ha : DPA X W g0 [e] ts) (hg : Gl X "abs" := by rfl) (he : starEach [e] X.env = (false, eval e X.env) :: starEach [] X.env := by rfl) (hpl : (backTo pos (starEach [] X.env)).any (·.1) = false := by rfl) :
    DE X W g0 (.Call (.Name "abs" p) [e] [] pos) (dB (on1 fAbs) ts) := de_callB call_abs rel_abs (B.at_ "abs") bt_abs ha hg (by decide) (by decide) he hpl
theorem dc_int (B : Bi X.mg) (ha : DPA X W g0 [e] ts) (hg : Gl X "int" := by rfl) (he : starEach [e] X.env = (false, eval e X.env) :: starEach [] X.env := by rfl) (hpl : (backTo pos (starEach [] X.env)).any (·.1) = false := by rfl) :
    DE X W g0 (.Call (.Name "int" p) [e] [] pos) (dB (on1 fInt) ts) := de_callTy call_int1 rel_int (B.at_ "int") bt_int ha hg (by decide) (by decide) he hpl
theorem dc_list (B : Bi X.mg) (ha : DPA X W g0 [e] ts) (hg : Gl X "list" := by rfl) (he : starEach [e] X.env = (false, eval e X.env) :: starEach [] X.env := by rfl) (hpl : (backTo pos (starEach [] X.env)).any (·.1) = false := by rfl) :
    DE X W g0 (.Call (.Name "list" p) [e] [] pos) (dB (on1 fList) ts) := de_callTy call_list_of relC_list (B.at_ "list") bt_list ha hg (by decide) (by decide) he hpl
theorem df_list (B : Bi X.mg) (ha : DPA X W g0 [e] ts) (hg : Gl X "list" := by rfl) (he : starEach [e] X.env = (false, eval e X.env) :: starEach [] X.env := by rfl) (hpl : (backTo pos (starEach [] X.env)).any (·.1) = false := by rfl) :
    DF X W g0 (.Call (.Name "list" p) [e] [] pos) (dB (on1 fList) ts) := df_callTy call_list_of relF_list (B.at_ "list") bt_list ha hg (by decide) (by decide) he hpl
theorem dc_tuple (B : Bi X.mg) (ha : DPA X W g0 [e] ts) (hg : Gl X "tuple" := by rfl) (he : starEach [e] X.env = (false, eval e X.env) :: starEach [] X.env := by rfl) (hpl : (backTo pos (starEach [] X.env)).any (·.1) = false := by rfl) :
    DE X W g0 (.Call (.Name "tuple" p) [e] [] pos) (dB (on1 fTuple) ts) := de_callTy call_tuple_of relC_tuple (B.at_ "tuple") bt_tuple ha hg (by decide) (by decide) he hpl
/-- - e -/
@[simp] def fNeg : D → (D → Prop) → Prop
  | .int i, P => P (.int (-i))
  | _, _ => False
@[simp] def dUn (f : D → (D → Prop) → Prop) (t : DT) : DT := fun ρ P Ex => t ρ (fun d => f d P) Ex
theorem de_neg (he : DE X W g0 e t) : DE X W g0 (.UnaryOp .USub e pos) (dUn fNeg t) := PE.imp (pe_un un_neg he) fun σ H Q h => by
  obtain ⟨g, ρ, P, Ex, rfl, s0, e, w, q, x⟩ := h
  refine ⟨g, ρ, _, Ex, rfl, s0, e, w, fun d hd v g1 s1 r1 => ?_, x⟩
  cases r1 with
  | int i => exact ⟨i, rfl, q _ hd _ g1 s1 (.int _)⟩
  | _ => exact hd.elim
/-- the operators by names -/
theorem de_add {a b : Expr} {ta tb : DT} (ha : DE X W g0 a ta) (hb : DE X W g0 b tb) : DE X W g0 (.BinOp a .Add b pos) (dOp fAdd ta tb) := de_op opr_add rel_add ha hb
theorem de_sub {a b : Expr} {ta tb : DT} (ha : DE X W g0 a ta) (hb : DE X W g0 b tb) : DE X W g0 (.BinOp a .Sub b pos) (dOp fSub ta tb) := de_op op_sub rel_sub ha hb
theorem de_mul {a b : Expr} {ta tb : DT} (ha : DE X W g0 a ta) (hb : DE X W g0 b tb) : DE X W g0 (.BinOp a .Mult b pos) (dOp fMul ta tb) := de_op opr_mul rel_mul ha hb
theorem de_fdv {a b : Expr} {ta tb : DT} (ha : DE X W g0 a ta) (hb : DE X W g0 b tb) : DE X W g0 (.BinOp a .FloorDiv b pos) (dOp fDiv ta tb) := de_op opr_div rel_div ha hb
theorem de_mod {a b : Expr} {ta tb : DT} (ha : DE X W g0 a ta) (hb : DE X W g0 b tb) : DE X W g0 (.BinOp a .Mod b pos) (dOp fMod ta tb) := de_op op_modN rel_mod ha hb
theorem ce_eq {a b : Expr} {ta tb : DT} (C : Cn X W k) (ha : DE X W g0 a ta) (hb : DE X W g0 b tb) : DE X W g0 (.Compare a [.Eq] [b] pos) (dOp fEq ta tb) := de_cmp (opr_eq C) (rel_eqB false) ha hb (nomark _)
theorem ce_ne {a b : Expr} {ta tb : DT} (C : Cn X W k) (ha : DE X W g0 a ta) (hb : DE X W g0 b tb) : DE X W g0 (.Compare a [.NotEq] [b] pos) (dOp fNe ta tb) := de_cmp (opr_ne C) (rel_eqB true) ha hb (nomark _)
theorem ce_lt {a b : Expr} {ta tb : DT} (ha : DE X W g0 a ta) (hb : DE X W g0 b tb) : DE X W g0 (.Compare a [.Lt] [b] pos) (dOp fLt ta tb) := de_cmp op_lt (rel_cmp _) ha hb (nomark _)
theorem ce_le {a b : Expr} {ta tb : DT} (ha : DE X W g0 a ta) (hb : DE X W g0 b tb) : DE X W g0 (.Compare a [.LtE] [b] pos) (dOp fLe ta tb) := de_cmp op_le (rel_cmp _) ha hb (nomark _)
theorem ce_gt {a b : Expr} {ta tb : DT} (ha : DE X W g0 a ta) (hb : DE X W g0 b tb) : DE X W g0 (.Compare a [.Gt] [b] pos) (dOp fGt ta tb) := de_cmp op_gt (rel_cmp _) ha hb (nomark _)
theorem ce_ge {a b : Expr} {ta tb : DT} (ha : DE X W g0 a ta) (hb : DE X W g0 b tb) : DE X W g0 (.Compare a [.GtE] [b] pos) (dOp fGe ta tb) := de_cmp op_ge (rel_cmp _) ha hb (nomark _)
theorem ce_is {a b : Expr} {ta tb : DT} (ha : DE X W g0 a ta) (hb : DE X W g0 b tb) : DE X W g0 (.Compare a [.Is] [b] pos) (dOp fIs ta tb) := de_cmp op_isN rel_is ha hb (nomark _)
theorem ce_isnot {a b : Expr} {ta tb : DT} (ha : DE X W g0 a ta) (hb : DE X W g0 b tb) : DE X W g0 (.Compare a [.IsNot] [b] pos) (dOp fIsNot ta tb) := de_cmp op_notN rel_isnot ha hb (nomark _)
theorem ce_in {a b : Expr} {ta tb : DT} (ha : DE X W g0 a ta) (hb : DE X W g0 b tb) (hm : behindInMarks .In b = false := by with_unfolding_all rfl) : DE X W g0 (.Compare a [.In] [b] pos) (dOp fIn ta tb) := de_cmp opr_in (rel_inB false) ha hb hm
theorem ce_notin {a b : Expr} {ta tb : DT} (ha : DE X W g0 a ta) (hb : DE X W g0 b tb) (hm : behindInMarks .NotIn b = false := by with_unfolding_all rfl) : DE X W g0 (.Compare a [.NotIn] [b] pos) (dOp fNotIn ta tb) := de_cmp opr_notin (rel_inB true) ha hb hm
theorem ct_eq {a b : Expr} {ta tb : DT} (C : Cn X W k) (ha : DE X W g0 a ta) (hb : DE X W g0 b tb) : DTt X W g0 (.Compare a [.Eq] [b] pos) (dTest (dOp fEq ta tb)) := dt_cmp (opr_eq C) (rel_eqB false) ha hb (nomark _)
theorem ct_ne {a b : Expr} {ta tb : DT} (C : Cn X W k) (ha : DE X W g0 a ta) (hb : DE X W g0 b tb) : DTt X W g0 (.Compare a [.NotEq] [b] pos) (dTest (dOp fNe ta tb)) := dt_cmp (opr_ne C) (rel_eqB true) ha hb (nomark _)
theorem ct_lt {a b : Expr} {ta tb : DT} (ha : DE X W g0 a ta) (hb : DE X W g0 b tb) : DTt X W g0 (.Compare a [.Lt] [b] pos) (dTest (dOp fLt ta tb)) := dt_cmp op_lt (rel_cmp _) ha hb (nomark _)
theorem ct_le {a b : Expr} {ta tb : DT} (ha : DE X W g0 a ta) (hb : DE X W g0 b tb) : DTt X W g0 (.Compare a [.LtE] [b] pos) (dTest (dOp fLe ta tb)) := dt_cmp op_le (rel_cmp _) ha hb (nomark _)
theorem ct_gt {a b : Expr} {ta tb : DT} (ha : DE X W g0 a ta) (hb : DE X W g0 b tb) : DTt X W g0 (.Compare a [.Gt] [b] pos) (dTest (dOp fGt ta tb)) := dt_cmp op_gt (rel_cmp _) ha hb (nomark _)
theorem ct_ge {a b : Expr} {ta tb : DT} (ha : DE X W g0 a ta) (hb : DE X W g0 b tb) : DTt X W g0 (.Compare a [.GtE] [b] pos) (dTest (dOp fGe ta tb)) := dt_cmp op_ge (rel_cmp _) ha hb (nomark _)
theorem ct_is {a b : Expr} {ta tb : DT} (ha : DE X W g0 a ta) (hb : DE X W g0 b tb) : DTt X W g0 (.Compare a [.Is] [b] pos) (dTest (dOp fIs ta tb)) := dt_cmp op_isN rel_is ha hb (nomark _)
theorem ct_isnot {a b : Expr} {ta tb : DT} (ha : DE X W g0 a ta) (hb : DE X W g0 b tb) : DTt X W g0 (.Compare a [.IsNot] [b] pos) (dTest (dOp fIsNot ta tb)) := dt_cmp op_notN rel_isnot ha hb (nomark _)
theorem ct_in {a b : Expr} {ta tb : DT} (ha : DE X W g0 a ta) (hb : DE X W g0 b tb) (hm : behindInMarks .In b = false := by with_unfolding_all rfl) : DTt X W g0 (.Compare a [.In] [b] pos) (dTest (dOp fIn ta tb)) := dt_cmp opr_in (rel_inB false) ha hb hm
theorem ct_notin {a b : Expr} {ta tb : DT} (ha : DE X W g0 a ta) (hb : DE X W g0 b tb) (hm : behindInMarks .NotIn b = false := by with_unfolding_all rfl) : DTt X W g0 (.Compare a [.NotIn] [b] pos) (dTest (dOp fNotIn ta tb)) := dt_cmp opr_notin (rel_inB true) ha hb hm
@[simp] def dOn (f : D → (D → Prop) → Prop) (t : DT) : DT := fun ρ P Ex => t ρ (fun d => f d P) Ex
end
end AU

/-! AuTry: try .. except X; methods of texts. -/
namespace AU
open PySem L2 PySem.Spec PyProof.Rows
/-- which of the exceptions 'except x' takes, as far as it is known -/
def Em (K : PySem.W.Frag) (x : Str) (m : Str → Option Bool) : Prop := ∀ c b, m c = some b → PySem.W.exmOne K (.ref (He.ga K c)) (.ref (He.ga K x)) = some b
@[simp] def dTry (m : Str → Option Bool) (t u : DS) : DS := fun ρ k => t ρ { k with ex := fun ρ' c => match m c with
  | some true => u ρ' k
  | some false => k.ex ρ' c
  | none => False }
section
variable {X : Cx} {W : WX} {g0 : Gh} {k : Nat} {x : Str} {np pos pos' : Pos} {body suite : List Stmt} {b₀ : Stmt} {t u : DS} {m : Str → Option Bool}
theorem dp_try (C : Cn X W k) (hx : XCls X.K X.mg x) (hm : Em X.K x m) (hb : ∀ (W' : WX) (pn : List (Addr × Obj)) (xe : Value → Shared → Prop), Cn (X.tr pn xe) W' k → DPs (X.tr pn xe) W' g0 body t)
    (hu : ∀ (a : Addr) (pn : List (Addr × Obj)), DPs (X.suite a pn) W g0 (b₀ :: suite) u) (hs : X.stack = X.env :: X.outer := by rfl) (hf : X.env.frame = some X.env.locals := by rfl) (hg : Gl X x := by rfl) (hdb : (x == ("__debug__" : Str)) = false := by decide) :
    DP X W g0 (.Try body [.ExceptHandler (some (.Name x np)) none (b₀ :: suite) pos'] [] [] pos) (dTry m t u) :=
  PS.imp (ps_try_only (c := .ref (He.ga X.K x)) (Wout := W) (tb := fun W' => liftS X.K W' g0 t) (ts := fun _ _ _ => liftS X.K W g0 u) hs hf ⟨hg, hdb, .inl hx.gl⟩ C.tk
    (fun W' pn xe tk po => hb W' pn xe ⟨tk, po, C.hr, C.cm, C.nd⟩) (fun a oe cls d pn _ _ => hu a ((a, oe) :: pn))) fun E σ H h => by
    obtain ⟨g, ρ, k, rfl, s0, e, w, l⟩ := h
    refine ⟨g, ρ, _, rfl, s0, e, w, l.nx, l.rt, l.bk, l.ct, fun ρ' c σ' g' s' e' w' => ?_⟩
    dsimp only at w'
    cases hc : m c with
    | none => rw [hc] at w'; exact w'.elim
    | some b =>
      refine ⟨b, hm c b hc, fun hb a _ => ?_, fun hb => ?_⟩
      · rw [hc, hb] at w'
        exact ⟨g', ρ', k, rfl, s', e', w', l⟩
      · rw [hc, hb] at w'
        exact l.ex ρ' c σ' g' s' e' w'

/-! ### x.find(y) -/
@[simp] def onS (P : Str → Prop) : D → Prop
  | .str a => P a
  | _ => False
theorem onS.out {P : Str → Prop} {d : D} (h : onS P d) : ∃ i, d = .str i ∧ P i := by
  cases d with
  | str i => exact ⟨i, rfl, h⟩
  | _ => exact h.elim
@[simp] def dFind (to te : DT) : DT := fun ρ P Ex => to ρ (onS fun a => te ρ (onS fun b => P (.int (Txt.find a b))) Ex) Ex
variable {o e : Expr} {to te : DT} {apos cpos : Pos}
theorem de_find (ho : DE X W g0 o to) (he : DE X W g0 e te) (hbase : attributeBase o "find" X.env (eval o X.env) = eval o X.env := by rfl)
    (hfew : ((backTo cpos (starEach [e] X.env)).all (fun x => !x.1) && (backToKw cpos (keywordEach [] X.env)).all (fun x => x.1.isSome) && decide ([e].length + ([] : List Keyword).length + (if ([] : List Keyword).isEmpty then 0 else 1) < 30)) = true := by rfl)
    (hline : (apos.endLine == cpos.line) = true := by rfl) (hs : starEach [e] X.env = (false, eval e X.env) :: starEach [] X.env := by rfl) (hpl : (backTo cpos (starEach [] X.env)).any (·.1) = false := by rfl) :
    DE X W g0 (.Call (.Attribute o "find" apos) [e] [] cpos) (dFind to te) :=
  PE.imp (pe_bm PySem.F.plainAttrs_str PySem.F.slot_str_find PySem.F.type_str_find mt_find ho (pa_cons he pa_nil hs) hbase hfew hline hs hpl) fun σ H Q h => by
    obtain ⟨g, ρ, P, Ex, rfl, s0, en, w, q, x⟩ := h
    refine ⟨g, ρ, _, Ex, rfl, s0, en, w, fun a ha v g1 s1 r1 => ?_, x⟩
    obtain ⟨z, rfl, hz⟩ := ha.out
    cases r1
    refine ⟨rfl, g1, ρ, _, Ex, rfl, s0.trans s1, en.step s1, hz, fun b hb u g2 s2 r2 => ?_, x.step s1⟩
    obtain ⟨y, rfl, hy⟩ := hb.out
    cases r2
    exact ⟨z, y, rfl, rfl, q _ hy _ g2 (s1.trans s2) (.int _)⟩
end
end AU

/-! AuT: the readings of the defs (printed by mkt.py). -/
namespace AU
open PySem L2 PySem.Spec PyProof.Rows
/-- where a script is drawn from -/
def S__law_begin : Spec := fun ds P _ => ∃ ns, ds = [.scr ns] ∧ P .drw
def S__law_draw : Spec := fun ds P _ => ∃ n : Int, ds = [.drw, .int n] ∧ 0 < n ∧ n < 1073741824 ∧ ∀ r, 0 ≤ r → r < n → P (.int r)
def t_is_word : DS := dRet (dAndV (dOn (fIsi "str") (dVar 0)) (dAndV (dChain fLe fLe (dC (.int 1)) (dB (on1 fLen) (dCons (dVar 0) (dNil))) (dC (.int 8))) (dB (on1 fAll) (dCons (dLc (iStrD (dVar 0)) (dgN 1) (dYes) (dOp fIn (dVar 1) (dC (.str "abcdefghijklmnopqrstuvwxyz"))) [1]) (dNil)))))
def t_is_within (S_is_word : Spec) (S_is_within : Spec) : DS := dSeq (dIfS (dOr (dNot (dTru (dOn (fIsi "tuple") (dVar 0)))) (dOr (dNot (dTru (dVar 0))) (dNot (dTru (dOn (fIsi "str") (dOp fIx (dVar 0) (dC (.int 0)))))))) (dRet (dC (.bl false))) (dNext)) (dSeq (dIfS (dTest (dOp fEq (dOp fIx (dVar 0) (dC (.int 0))) (dC (.str "mark")))) (dRet (dAndV (dOp fEq (dB (on1 fLen) (dCons (dVar 0) (dNil))) (dC (.int 2))) (dCall S_is_word (dCons (dOp fIx (dVar 0) (dC (.int 1))) (dNil))))) (dNext)) (dSeq (dIfS (dOr (dTest (dOp fNe (dOp fIx (dVar 0) (dC (.int 0))) (dC (.str "draw")))) (dOr (dTest (dOp fNe (dB (on1 fLen) (dCons (dVar 0) (dNil))) (dC (.int 4)))) (dTest (dOp fEq (dVar 1) (dC (.int 0)))))) (dRet (dC (.bl false))) (dNext)) (dSeq (dIfS (dOr (dNot (dTru (dOn (fIsi "str") (dOp fIx (dVar 0) (dC (.int 1)))))) (dTest (dOp fNotIn (dOp fIx (dVar 0) (dC (.int 1))) (dC (.tup [(.str "back"), (.str "aside"), (.str "more"), (.str "other")]))))) (dRet (dC (.bl false))) (dNext)) (dRet (dAndV (dCall S_is_within (dCons (dOp fIx (dVar 0) (dC (.int 2))) (dCons (dOp fSub (dVar 1) (dC (.int 1))) (dNil)))) (dCall S_is_within (dCons (dOp fIx (dVar 0) (dC (.int 3))) (dCons (dOp fSub (dVar 1) (dC (.int 1))) (dNil)))))))))
def t_is_program (S_is_within : Spec) : DS := dRet (dCall S_is_within (dCons (dVar 0) (dCons (dC (.int 6)) (dNil))))
def t_check_program (S_is_program : Spec) : DS := dIfS (dNot (dTru (dCall S_is_program (dCons (dVar 0) (dNil))))) (dRaise "BadProgram") (dNext)
def t_text_of (S_text_of : Spec) : DS := dSeq (dIfS (dTest (dOp fEq (dOp fIx (dVar 0) (dC (.int 0))) (dC (.str "mark")))) (dRet (dOp fIx (dVar 0) (dC (.int 1)))) (dNext)) (dRet (dJs [dFmt (dOp fIx (dVar 0) (dC (.int 1))), dC (.str "("), dFmt (dCall S_text_of (dCons (dOp fIx (dVar 0) (dC (.int 2))) (dNil))), dC (.str ", "), dFmt (dCall S_text_of (dCons (dOp fIx (dVar 0) (dC (.int 3))) (dNil))), dC (.str ")")] Str.empty))
def t_write (S_check_program : Spec) (S_text_of : Spec) : DS := dSeq (dDrop (dCall S_check_program (dCons (dVar 0) (dNil)))) (dRet (dCall S_text_of (dCons (dVar 0) (dNil))))
def t_word_at : DS := dSeq (dSet 2 (dVar 1)) (dSeq (dWhile (dAnd (dTest (dOp fLt (dVar 2) (dB (on1 fLen) (dCons (dVar 0) (dNil))))) (dTest (dOp fIn (dOp fIx (dVar 0) (dVar 2)) (dC (.str "abcdefghijklmnopqrstuvwxyz"))))) (dAug 2 (dC (.int 1)) (fun a b => a + b))) (dRet (dTup (dCons (dSl (dVar 0) (dPart (dVar 1)) (dPart (dVar 2))) (dCons (dVar 2) (dNil))))))
def t_program_at (S_word_at : Spec) (S_program_at : Spec) : DS := dSeq (dAsg (dCall S_word_at (dCons (dVar 0) (dCons (dVar 1) (dNil)))) (dgTup (dgCons (dgN 3) (dgCons (dgN 1) (dgNil))))) (dSeq (dIfS (dTest (dOp fNe (dSl (dVar 0) (dPart (dVar 1)) (dPart (dOp fAdd (dVar 1) (dC (.int 1))))) (dC (.str "(")))) (dRet (dTup (dCons (dTup (dCons (dC (.str "mark")) (dCons (dVar 3) (dNil)))) (dCons (dVar 1) (dNil))))) (dNext)) (dSeq (dIfS (dOr (dTest (dOp fNotIn (dVar 3) (dC (.tup [(.str "back"), (.str "aside"), (.str "more"), (.str "other")])))) (dTest (dOp fEq (dVar 2) (dC (.int 0))))) (dRet (dTup (dCons (dC .non) (dCons (dVar 1) (dNil))))) (dNext)) (dSeq (dAsg (dCall S_program_at (dCons (dVar 0) (dCons (dOp fAdd (dVar 1) (dC (.int 1))) (dCons (dOp fSub (dVar 2) (dC (.int 1))) (dNil))))) (dgTup (dgCons (dgN 4) (dgCons (dgN 1) (dgNil))))) (dSeq (dIfS (dOr (dTest (dOp fIs (dVar 4) (dC .non))) (dTest (dOp fNe (dSl (dVar 0) (dPart (dVar 1)) (dPart (dOp fAdd (dVar 1) (dC (.int 2))))) (dC (.str ", "))))) (dRet (dTup (dCons (dC .non) (dCons (dVar 1) (dNil))))) (dNext)) (dSeq (dAsg (dCall S_program_at (dCons (dVar 0) (dCons (dOp fAdd (dVar 1) (dC (.int 2))) (dCons (dOp fSub (dVar 2) (dC (.int 1))) (dNil))))) (dgTup (dgCons (dgN 5) (dgCons (dgN 1) (dgNil))))) (dSeq (dIfS (dOr (dTest (dOp fIs (dVar 5) (dC .non))) (dTest (dOp fNe (dSl (dVar 0) (dPart (dVar 1)) (dPart (dOp fAdd (dVar 1) (dC (.int 1))))) (dC (.str ")"))))) (dRet (dTup (dCons (dC .non) (dCons (dVar 1) (dNil))))) (dNext)) (dRet (dTup (dCons (dTup (dCons (dC (.str "draw")) (dCons (dVar 3) (dCons (dVar 4) (dCons (dVar 5) (dNil)))))) (dCons (dOp fAdd (dVar 1) (dC (.int 1))) (dNil)))))))))))
def t_read (S_program_at : Spec) (S_is_program : Spec) : DS := dSeq (dAsg (dCall S_program_at (dCons (dVar 0) (dCons (dC (.int 0)) (dCons (dC (.int 6)) (dNil))))) (dgTup (dgCons (dgN 1) (dgCons (dgN 2) (dgNil))))) (dSeq (dIfS (dOr (dTest (dOp fIs (dVar 1) (dC .non))) (dOr (dTest (dOp fLt (dVar 2) (dB (on1 fLen) (dCons (dVar 0) (dNil))))) (dNot (dTru (dCall S_is_program (dCons (dVar 1) (dNil))))))) (dRaise "BadText") (dNext)) (dRet (dVar 1)))
def t__law_ways : DS := dRet (dLst (dCons (dC (.str "back")) (dCons (dC (.str "aside")) (dCons (dC (.str "more")) (dCons (dC (.str "other")) (dNil))))))
def t__law_program (S__law_draw : Spec) (S__law_ways : Spec) (S__law_program : Spec) : DS := dSeq (dIfS (dOr (dTest (dOp fEq (dVar 1) (dC (.int 0)))) (dTest (dOp fEq (dCall S__law_draw (dCons (dVar 0) (dCons (dC (.int 5)) (dNil)))) (dC (.int 0))))) (dRet (dTup (dCons (dC (.str "mark")) (dCons (dOp fIx (dLst (dCons (dC (.str "hit")) (dCons (dC (.str "miss")) (dCons (dC (.str "back")) (dNil))))) (dCall S__law_draw (dCons (dVar 0) (dCons (dC (.int 3)) (dNil))))) (dNil))))) (dNext)) (dSeq (dSet 2 (dOp fIx (dCall S__law_ways dNil) (dCall S__law_draw (dCons (dVar 0) (dCons (dC (.int 4)) (dNil)))))) (dRet (dTup (dCons (dC (.str "draw")) (dCons (dVar 2) (dCons (dCall S__law_program (dCons (dVar 0) (dCons (dOp fSub (dVar 1) (dC (.int 1))) (dNil)))) (dCons (dCall S__law_program (dCons (dVar 0) (dCons (dOp fSub (dVar 1) (dC (.int 1))) (dNil)))) (dNil))))))))
def t__law_text (S__law_text : Spec) : DS := dSeq (dIfS (dTest (dOp fEq (dOp fIx (dVar 0) (dC (.int 0))) (dC (.str "mark")))) (dRet (dOp fIx (dVar 0) (dC (.int 1)))) (dNext)) (dRet (dOp fAdd (dOp fAdd (dOp fAdd (dOp fAdd (dOp fAdd (dOp fIx (dVar 0) (dC (.int 1))) (dC (.str "("))) (dCall S__law_text (dCons (dOp fIx (dVar 0) (dC (.int 2))) (dNil)))) (dC (.str ", "))) (dCall S__law_text (dCons (dOp fIx (dVar 0) (dC (.int 3))) (dNil)))) (dC (.str ")"))))
def t__law_like (S__law_like : Spec) : DS := dSeq (dIfS (dTru (dOn (fIsi "dict") (dVar 1))) (dNever) (dNext)) (dSeq (dIfS (dTest (dOp fIs (dVar 1) (dC .non))) (dNever) (dNext)) (dSeq (dIfS (dTru (dOn (fIsi "bool") (dVar 1))) (dNever) (dNext)) (dSeq (dIfS (dTru (dOn (fIsi "int") (dVar 1))) (dRet (dAndV (dOn (fIsi "int") (dVar 0)) (dAndV (dNotV (dOn (fIsi "bool") (dVar 0))) (dOp fEq (dVar 0) (dVar 1))))) (dNext)) (dSeq (dIfS (dTru (dOn (fIsi "str") (dVar 1))) (dRet (dAndV (dOn (fIsi "str") (dVar 0)) (dOp fEq (dVar 0) (dVar 1)))) (dNext)) (dSeq (dIfS (dTru (dOn (fIsi "tuple") (dVar 1))) (dIfS (dOr (dNot (dTru (dOn (fIsi "tuple") (dVar 0)))) (dTest (dOp fNe (dB (on1 fLen) (dCons (dVar 0) (dNil))) (dB (on1 fLen) (dCons (dVar 1) (dNil)))))) (dRet (dC (.bl false))) (dNext)) (dIfS (dOr (dNot (dTru (dOn (fIsi "list") (dVar 0)))) (dTest (dOp fNe (dB (on1 fLen) (dCons (dVar 0) (dNil))) (dB (on1 fLen) (dCons (dVar 1) (dNil)))))) (dRet (dC (.bl false))) (dNext))) (dSeq (dFor (iRange1 (dCons (dB (on1 fLen) (dCons (dVar 1) (dNil))) (dNil))) (dgN 2) (dIfS (dNot (dTru (dCall S__law_like (dCons (dOp fIx (dVar 0) (dVar 2)) (dCons (dOp fIx (dVar 1) (dVar 2)) (dNil)))))) (dRet (dC (.bl false))) (dNext))) (dRet (dC (.bl true)))))))))
end AU

namespace AU
open PySem L2 PySem.Spec PyProof.Rows
def top (i : Nat) : Stmt := PySem.Challenge.pw_anyurn_k10_texts_refused.main.body.getD i (.Pass ⟨0, 0, 0, 0⟩)
section
variable {P : Program} {w : World} {K : PySem.W.Frag} {mg : Str → Option Value} {base : Heap}
theorem sc_is_word : FnScope ["thing", "sign"] ["thing"] (defScope (top 7)) := ⟨rfl, rfl, rfl, by decide +kernel, rfl, by decide +kernel, by decide +kernel⟩
theorem bd_is_word {k : Nat} {f : Addr} {cdv : Value} {A : Around} {outer : List PySem.Env} {s : Shared} {H : Hp} {E : XK} {g0 : Gh} (B : Bi mg) (c_SMALL : Cs K mg "SMALL" (.str "abcdefghijklmnopqrstuvwxyz")) (C : Cn (cxD P w K mg base ["thing", "sign"] "is_word" (defScope (top 7)) f cdv A outer s H E) (wxD E) k) : DPs (cxD P w K mg base ["thing", "sign"] "is_word" (defScope (top 7)) f cdv A outer s H E) (wxD E) g0 (defBody (top 7)) (t_is_word) := by
  exact dp_one (dp_ret (de_and (de_isi "str" B (de_var 0) (B.at_ "str") (hv := by decide +kernel)) (de_and (de_chain (op_le) (rel_cmp _) (op_le) (rel_cmp _) (de_int) (dc_len B (da_cons (de_var 0) (da_nil))) (de_int)) (de_one (dc_all C B (da_cons (de_lc (own := [("sign", 1)]) C (di_str (de_var 0)) (blkOk_by (show blkC ["thing", "sign"] (defScope (top 7)) _ [("sign", 1)] = true from by decide +kernel)) ⟨fun s H Ca cl fp C gb => ⟨dg_name 1 C.nd, dts_nil, ce_in (de_var 1) (de_cs c_SMALL)⟩⟩) (da_nil)))))))
theorem ok_is_word {k : Nat} {f : Addr} {fd : FuncData} (F : FunD K "is_word" "is_word" (defArgs (top 7)) (defBody (top 7)) (defScope (top 7)) [] [] f fd) (B : Bi mg) (c_SMALL : Cs K mg "SMALL" (.str "abcdefghijklmnopqrstuvwxyz")) {S : Spec} (len : ∀ ds Q Ex, S ds Q Ex → ds.length = 1) (spec : ∀ ds Q Ex, S ds Q Ex → t_is_word (startD 2 ds) (endsOf Q Ex)) : FnOk P w K mg base (L2.CX P w) (k + 1) f fd ["thing"] (spD K S) :=
  fnD F sc_is_word (fun cdv A outer s H E g0 C => bd_is_word B c_SMALL C) len spec
theorem fn_is_word {k : Nat} (Y : Df K mg (top 7) "is_word") (B : Bi mg) (c_SMALL : Cs K mg "SMALL" (.str "abcdefghijklmnopqrstuvwxyz")) {S : Spec} (len : ∀ ds Q Ex, S ds Q Ex → ds.length = 1) (spec : ∀ ds Q Ex, S ds Q Ex → t_is_word (startD 2 ds) (endsOf Q Ex)) : Fn P w K mg base (k + 1) "is_word" S := by
  obtain ⟨fd, F, hm⟩ := Y
  exact fn_mk F (ok_is_word F B c_SMALL len spec) hm (fun _ _ _ _ _ _ us hl => match us, hl with | [_], _ => rfl)

theorem sc_is_within : FnScope ["thing", "draws"] ["thing", "draws"] (defScope (top 8)) := ⟨rfl, rfl, rfl, by decide +kernel, rfl, by decide +kernel, by decide +kernel⟩
theorem bd_is_within {k : Nat} {f : Addr} {cdv : Value} {A : Around} {outer : List PySem.Env} {s : Shared} {H : Hp} {E : XK} {g0 : Gh} (B : Bi mg) {S_is_word : Spec} {j_is_word : Nat} (F_is_word : Fn P w K mg base j_is_word "is_word" S_is_word) (h_is_word : j_is_word ≤ k) {S_is_within : Spec} {j_is_within : Nat} (F_is_within : Fn P w K mg base j_is_within "is_within" S_is_within) (h_is_within : j_is_within ≤ k) (c_WAYS : Cs K mg "WAYS" (.tup [(.str "back"), (.str "aside"), (.str "more"), (.str "other")])) (C : Cn (cxD P w K mg base ["thing", "draws"] "is_within" (defScope (top 8)) f cdv A outer s H E) (wxD E) k) : DPs (cxD P w K mg base ["thing", "draws"] "is_within" (defScope (top 8)) f cdv A outer s H E) (wxD E) g0 (defBody (top 8)) (t_is_within S_is_word S_is_within) := by
  exact dp_cons (dp_if (dt_w (dw_or (dt_not (dt_tru (de_isi "tuple" B (de_var 0) (B.at_ "tuple") (hv := by decide +kernel)))) (dw_or (dt_not (dt_tru (de_var 0))) (dw_or1 (dt_not (dt_tru (de_isi "str" B (de_ix (de_var 0) (de_int)) (B.at_ "str") (hv := by decide +kernel)))))))) (dp_one (dp_ret (de_bl))) (dp_nil)) (dp_cons (dp_if (ct_eq C (de_ix (de_var 0) (de_int)) (de_str)) (dp_one (dp_ret (de_and (ce_eq C (dc_len B (da_cons (de_var 0) (da_nil))) (de_int)) (de_one (de_call C F_is_word h_is_word (da_cons (de_ix (de_var 0) (de_int)) (da_nil))))))) (dp_nil)) (dp_cons (dp_if (dt_w (dw_or (ct_ne C (de_ix (de_var 0) (de_int)) (de_str)) (dw_or (ct_ne C (dc_len B (da_cons (de_var 0) (da_nil))) (de_int)) (dw_or1 (ct_eq C (de_var 1) (de_int)))))) (dp_one (dp_ret (de_bl))) (dp_nil)) (dp_cons (dp_if (dt_w (dw_or (dt_not (dt_tru (de_isi "str" B (de_ix (de_var 0) (de_int)) (B.at_ "str") (hv := by decide +kernel)))) (dw_or1 (ct_notin (de_ix (de_var 0) (de_int)) (de_cs c_WAYS))))) (dp_one (dp_ret (de_bl))) (dp_nil)) (dp_one (dp_ret (de_and (de_call C F_is_within h_is_within (da_cons (de_ix (de_var 0) (de_int)) (da_cons (de_sub (de_var 1) (de_int)) (da_nil)))) (de_one (de_call C F_is_within h_is_within (da_cons (de_ix (de_var 0) (de_int)) (da_cons (de_sub (de_var 1) (de_int)) (da_nil)))))))))))
theorem ok_is_within {k : Nat} {f : Addr} {fd : FuncData} (F : FunD K "is_within" "is_within" (defArgs (top 8)) (defBody (top 8)) (defScope (top 8)) [] [] f fd) (B : Bi mg) {S_is_word : Spec} {j_is_word : Nat} (F_is_word : Fn P w K mg base j_is_word "is_word" S_is_word) (h_is_word : j_is_word ≤ k) {S_is_within : Spec} {j_is_within : Nat} (F_is_within : Fn P w K mg base j_is_within "is_within" S_is_within) (h_is_within : j_is_within ≤ k) (c_WAYS : Cs K mg "WAYS" (.tup [(.str "back"), (.str "aside"), (.str "more"), (.str "other")])) {S : Spec} (len : ∀ ds Q Ex, S ds Q Ex → ds.length = 2) (spec : ∀ ds Q Ex, S ds Q Ex → t_is_within S_is_word S_is_within (startD 2 ds) (endsOf Q Ex)) : FnOk P w K mg base (L2.CX P w) (k + 1) f fd ["thing", "draws"] (spD K S) :=
  fnD F sc_is_within (fun cdv A outer s H E g0 C => bd_is_within B F_is_word h_is_word F_is_within h_is_within c_WAYS C) len spec
theorem fn_is_within {k : Nat} (Y : Df K mg (top 8) "is_within") (B : Bi mg) {S_is_word : Spec} {j_is_word : Nat} (F_is_word : Fn P w K mg base j_is_word "is_word" S_is_word) (h_is_word : j_is_word ≤ k) {S_is_within : Spec} {j_is_within : Nat} (F_is_within : Fn P w K mg base j_is_within "is_within" S_is_within) (h_is_within : j_is_within ≤ k) (c_WAYS : Cs K mg "WAYS" (.tup [(.str "back"), (.str "aside"), (.str "more"), (.str "other")])) {S : Spec} (len : ∀ ds Q Ex, S ds Q Ex → ds.length = 2) (spec : ∀ ds Q Ex, S ds Q Ex → t_is_within S_is_word S_is_within (startD 2 ds) (endsOf Q Ex)) : Fn P w K mg base (k + 1) "is_within" S := by
  obtain ⟨fd, F, hm⟩ := Y
  exact fn_mk F (ok_is_within F B F_is_word h_is_word F_is_within h_is_within c_WAYS len spec) hm (fun _ _ _ _ _ _ us hl => match us, hl with | [_, _], _ => rfl)
theorem no_is_within {k : Nat} (Y : Df K mg (top 8) "is_within") : Fn P w K mg base (k + 1) "is_within" S_no := by
  obtain ⟨fd, F, hm⟩ := Y
  exact fn_no F sc_is_within hm (fun _ _ _ _ _ _ us hl => match us, hl with | [_, _], _ => rfl)
theorem rec_is_within {k : Nat} (Y : Df K mg (top 8) "is_within") (B : Bi mg) {S_is_word : Spec} {j_is_word : Nat} (F_is_word : Fn P w K mg base j_is_word "is_word" S_is_word) (h_is_word : j_is_word ≤ k + 1) (c_WAYS : Cs K mg "WAYS" (.tup [(.str "back"), (.str "aside"), (.str "more"), (.str "other")])) {S : Nat → Spec} (len : ∀ N ds Q Ex, S N ds Q Ex → ds.length = 2) (p : ∀ (N : Nat) (SR : Spec), (∀ ds P Ex, N ≠ 0 → S (N - 1) ds P Ex → SR ds P Ex) → ∀ ds Q Ex, S N ds Q Ex → t_is_within S_is_word SR (startD 2 ds) (endsOf Q Ex)) : ∀ N : Nat, Fn P w K mg base (k + 2 + N) "is_within" (S N)
  | 0 => fn_is_within (k := k + 1) Y B F_is_word h_is_word (no_is_within (k := k) Y) (Nat.le_refl _) c_WAYS (len 0) (p 0 _ fun _ _ _ h0 _ => absurd rfl h0)
  | N + 1 => fn_is_within (k := k + 2 + N) Y B F_is_word (Nat.le_trans h_is_word (by omega)) (rec_is_within Y B F_is_word h_is_word c_WAYS len p N) (Nat.le_refl _) c_WAYS (len (N + 1)) (p (N + 1) _ fun _ _ _ _ h => h)

theorem sc_is_program : FnScope ["thing"] ["thing"] (defScope (top 9)) := ⟨rfl, rfl, rfl, by decide +kernel, rfl, by decide +kernel, by decide +kernel⟩
theorem bd_is_program {k : Nat} {f : Addr} {cdv : Value} {A : Around} {outer : List PySem.Env} {s : Shared} {H : Hp} {E : XK} {g0 : Gh} (B : Bi mg) {S_is_within : Spec} {j_is_within : Nat} (F_is_within : Fn P w K mg base j_is_within "is_within" S_is_within) (h_is_within : j_is_within ≤ k) (c_MOST_DRAWS : Cs K mg "MOST_DRAWS" (.int 6)) (C : Cn (cxD P w K mg base ["thing"] "is_program" (defScope (top 9)) f cdv A outer s H E) (wxD E) k) : DPs (cxD P w K mg base ["thing"] "is_program" (defScope (top 9)) f cdv A outer s H E) (wxD E) g0 (defBody (top 9)) (t_is_program S_is_within) := by
  exact dp_one (dp_ret (de_call C F_is_within h_is_within (da_cons (de_var 0) (da_cons (de_cs c_MOST_DRAWS) (da_nil)))))
theorem ok_is_program {k : Nat} {f : Addr} {fd : FuncData} (F : FunD K "is_program" "is_program" (defArgs (top 9)) (defBody (top 9)) (defScope (top 9)) [] [] f fd) (B : Bi mg) {S_is_within : Spec} {j_is_within : Nat} (F_is_within : Fn P w K mg base j_is_within "is_within" S_is_within) (h_is_within : j_is_within ≤ k) (c_MOST_DRAWS : Cs K mg "MOST_DRAWS" (.int 6)) {S : Spec} (len : ∀ ds Q Ex, S ds Q Ex → ds.length = 1) (spec : ∀ ds Q Ex, S ds Q Ex → t_is_program S_is_within (startD 1 ds) (endsOf Q Ex)) : FnOk P w K mg base (L2.CX P w) (k + 1) f fd ["thing"] (spD K S) :=
  fnD F sc_is_program (fun cdv A outer s H E g0 C => bd_is_program B F_is_within h_is_within c_MOST_DRAWS C) len spec
theorem fn_is_program {k : Nat} (Y : Df K mg (top 9) "is_program") (B : Bi mg) {S_is_within : Spec} {j_is_within : Nat} (F_is_within : Fn P w K mg base j_is_within "is_within" S_is_within) (h_is_within : j_is_within ≤ k) (c_MOST_DRAWS : Cs K mg "MOST_DRAWS" (.int 6)) {S : Spec} (len : ∀ ds Q Ex, S ds Q Ex → ds.length = 1) (spec : ∀ ds Q Ex, S ds Q Ex → t_is_program S_is_within (startD 1 ds) (endsOf Q Ex)) : Fn P w K mg base (k + 1) "is_program" S := by
  obtain ⟨fd, F, hm⟩ := Y
  exact fn_mk F (ok_is_program F B F_is_within h_is_within c_MOST_DRAWS len spec) hm (fun _ _ _ _ _ _ us hl => match us, hl with | [_], _ => rfl)

theorem sc_word_at : FnScope ["text", "at", "end"] ["text", "at"] (defScope (top 11)) := ⟨rfl, rfl, rfl, by decide +kernel, rfl, by decide +kernel, by decide +kernel⟩
theorem bd_word_at {k : Nat} {f : Addr} {cdv : Value} {A : Around} {outer : List PySem.Env} {s : Shared} {H : Hp} {E : XK} {g0 : Gh} (B : Bi mg) (c_SMALL : Cs K mg "SMALL" (.str "abcdefghijklmnopqrstuvwxyz")) (C : Cn (cxD P w K mg base ["text", "at", "end"] "word_at" (defScope (top 11)) f cdv A outer s H E) (wxD E) k) : DPs (cxD P w K mg base ["text", "at", "end"] "word_at" (defScope (top 11)) f cdv A outer s H E) (wxD E) g0 (defBody (top 11)) (t_word_at) := by
  exact dp_cons (dp_set 2 C.nd (de_var 1)) (dp_cons (dp_while C (dt_w (dw_and (ct_lt (de_var 2) (dc_len B (da_cons (de_var 0) (da_nil)))) (dw_and1 (ct_in (de_ix (de_var 0) (de_var 2)) (de_cs c_SMALL))))) (dp_one (dp_aug 2 C.nd ip_add (de_int)))) (dp_one (dp_ret (de_tup (da_cons (de_sl (de_var 0) (do_some (de_var 1)) (do_some (de_var 2))) (da_cons (de_var 2) (da_nil)))))))
theorem ok_word_at {k : Nat} {f : Addr} {fd : FuncData} (F : FunD K "word_at" "word_at" (defArgs (top 11)) (defBody (top 11)) (defScope (top 11)) [] [] f fd) (B : Bi mg) (c_SMALL : Cs K mg "SMALL" (.str "abcdefghijklmnopqrstuvwxyz")) {S : Spec} (len : ∀ ds Q Ex, S ds Q Ex → ds.length = 2) (spec : ∀ ds Q Ex, S ds Q Ex → t_word_at (startD 3 ds) (endsOf Q Ex)) : FnOk P w K mg base (L2.CX P w) (k + 1) f fd ["text", "at"] (spD K S) :=
  fnD F sc_word_at (fun cdv A outer s H E g0 C => bd_word_at B c_SMALL C) len spec
theorem fn_word_at {k : Nat} (Y : Df K mg (top 11) "word_at") (B : Bi mg) (c_SMALL : Cs K mg "SMALL" (.str "abcdefghijklmnopqrstuvwxyz")) {S : Spec} (len : ∀ ds Q Ex, S ds Q Ex → ds.length = 2) (spec : ∀ ds Q Ex, S ds Q Ex → t_word_at (startD 3 ds) (endsOf Q Ex)) : Fn P w K mg base (k + 1) "word_at" S := by
  obtain ⟨fd, F, hm⟩ := Y
  exact fn_mk F (ok_word_at F B c_SMALL len spec) hm (fun _ _ _ _ _ _ us hl => match us, hl with | [_, _], _ => rfl)

theorem sc_program_at : FnScope ["text", "at", "draws", "word", "red", "blue"] ["text", "at", "draws"] (defScope (top 12)) := ⟨rfl, rfl, rfl, by decide +kernel, rfl, by decide +kernel, by decide +kernel⟩
theorem bd_program_at {k : Nat} {f : Addr} {cdv : Value} {A : Around} {outer : List PySem.Env} {s : Shared} {H : Hp} {E : XK} {g0 : Gh} (B : Bi mg) {S_word_at : Spec} {j_word_at : Nat} (F_word_at : Fn P w K mg base j_word_at "word_at" S_word_at) (h_word_at : j_word_at ≤ k) {S_program_at : Spec} {j_program_at : Nat} (F_program_at : Fn P w K mg base j_program_at "program_at" S_program_at) (h_program_at : j_program_at ≤ k) (c_WAYS : Cs K mg "WAYS" (.tup [(.str "back"), (.str "aside"), (.str "more"), (.str "other")])) (C : Cn (cxD P w K mg base ["text", "at", "draws", "word", "red", "blue"] "program_at" (defScope (top 12)) f cdv A outer s H E) (wxD E) k) : DPs (cxD P w K mg base ["text", "at", "draws", "word", "red", "blue"] "program_at" (defScope (top 12)) f cdv A outer s H E) (wxD E) g0 (defBody (top 12)) (t_program_at S_word_at S_program_at) := by
  exact dp_cons (dp_asg (sl := [3, 1]) (de_call C F_word_at h_word_at (da_cons (de_var 0) (da_cons (de_var 1) (da_nil)))) (dg_tup C.cm (dgs_cons (dg_name 3 C.nd) (dgs_cons (dg_name 1 C.nd) (dgs_nil))) (dlen_cons (live_n) (dlen_cons (live_n) (dlen_nil))))) (dp_cons (dp_if (ct_ne C (de_sl (de_var 0) (do_some (de_var 1)) (do_some (de_add (de_var 1) (de_int)))) (de_str)) (dp_one (dp_ret (de_tup (da_cons (de_tup (da_cons (de_str) (da_cons (de_var 3) (da_nil)))) (da_cons (de_var 1) (da_nil)))))) (dp_nil)) (dp_cons (dp_if (dt_w (dw_or (ct_notin (de_var 3) (de_cs c_WAYS)) (dw_or1 (ct_eq C (de_var 2) (de_int))))) (dp_one (dp_ret (de_tup (da_cons (de_non) (da_cons (de_var 1) (da_nil)))))) (dp_nil)) (dp_cons (dp_asg (sl := [4, 1]) (de_call C F_program_at h_program_at (da_cons (de_var 0) (da_cons (de_add (de_var 1) (de_int)) (da_cons (de_sub (de_var 2) (de_int)) (da_nil))))) (dg_tup C.cm (dgs_cons (dg_name 4 C.nd) (dgs_cons (dg_name 1 C.nd) (dgs_nil))) (dlen_cons (live_n) (dlen_cons (live_n) (dlen_nil))))) (dp_cons (dp_if (dt_w (dw_or (ct_is (de_var 4) (de_non)) (dw_or1 (ct_ne C (de_sl (de_var 0) (do_some (de_var 1)) (do_some (de_add (de_var 1) (de_int)))) (de_str))))) (dp_one (dp_ret (de_tup (da_cons (de_non) (da_cons (de_var 1) (da_nil)))))) (dp_nil)) (dp_cons (dp_asg (sl := [5, 1]) (de_call C F_program_at h_program_at (da_cons (de_var 0) (da_cons (de_add (de_var 1) (de_int)) (da_cons (de_sub (de_var 2) (de_int)) (da_nil))))) (dg_tup C.cm (dgs_cons (dg_name 5 C.nd) (dgs_cons (dg_name 1 C.nd) (dgs_nil))) (dlen_cons (live_n) (dlen_cons (live_n) (dlen_nil))))) (dp_cons (dp_if (dt_w (dw_or (ct_is (de_var 5) (de_non)) (dw_or1 (ct_ne C (de_sl (de_var 0) (do_some (de_var 1)) (do_some (de_add (de_var 1) (de_int)))) (de_str))))) (dp_one (dp_ret (de_tup (da_cons (de_non) (da_cons (de_var 1) (da_nil)))))) (dp_nil)) (dp_one (dp_ret (de_tup (da_cons (de_tup (da_cons (de_str) (da_cons (de_var 3) (da_cons (de_var 4) (da_cons (de_var 5) (da_nil)))))) (da_cons (de_add (de_var 1) (de_int)) (da_nil))))))))))))
theorem ok_program_at {k : Nat} {f : Addr} {fd : FuncData} (F : FunD K "program_at" "program_at" (defArgs (top 12)) (defBody (top 12)) (defScope (top 12)) [] [] f fd) (B : Bi mg) {S_word_at : Spec} {j_word_at : Nat} (F_word_at : Fn P w K mg base j_word_at "word_at" S_word_at) (h_word_at : j_word_at ≤ k) {S_program_at : Spec} {j_program_at : Nat} (F_program_at : Fn P w K mg base j_program_at "program_at" S_program_at) (h_program_at : j_program_at ≤ k) (c_WAYS : Cs K mg "WAYS" (.tup [(.str "back"), (.str "aside"), (.str "more"), (.str "other")])) {S : Spec} (len : ∀ ds Q Ex, S ds Q Ex → ds.length = 3) (spec : ∀ ds Q Ex, S ds Q Ex → t_program_at S_word_at S_program_at (startD 6 ds) (endsOf Q Ex)) : FnOk P w K mg base (L2.CX P w) (k + 1) f fd ["text", "at", "draws"] (spD K S) :=
  fnD F sc_program_at (fun cdv A outer s H E g0 C => bd_program_at B F_word_at h_word_at F_program_at h_program_at c_WAYS C) len spec
theorem fn_program_at {k : Nat} (Y : Df K mg (top 12) "program_at") (B : Bi mg) {S_word_at : Spec} {j_word_at : Nat} (F_word_at : Fn P w K mg base j_word_at "word_at" S_word_at) (h_word_at : j_word_at ≤ k) {S_program_at : Spec} {j_program_at : Nat} (F_program_at : Fn P w K mg base j_program_at "program_at" S_program_at) (h_program_at : j_program_at ≤ k) (c_WAYS : Cs K mg "WAYS" (.tup [(.str "back"), (.str "aside"), (.str "more"), (.str "other")])) {S : Spec} (len : ∀ ds Q Ex, S ds Q Ex → ds.length = 3) (spec : ∀ ds Q Ex, S ds Q Ex → t_program_at S_word_at S_program_at (startD 6 ds) (endsOf Q Ex)) : Fn P w K mg base (k + 1) "program_at" S := by
  obtain ⟨fd, F, hm⟩ := Y
  exact fn_mk F (ok_program_at F B F_word_at h_word_at F_program_at h_program_at c_WAYS len spec) hm (fun _ _ _ _ _ _ us hl => match us, hl with | [_, _, _], _ => rfl)
theorem no_program_at {k : Nat} (Y : Df K mg (top 12) "program_at") : Fn P w K mg base (k + 1) "program_at" S_no := by
  obtain ⟨fd, F, hm⟩ := Y
  exact fn_no F sc_program_at hm (fun _ _ _ _ _ _ us hl => match us, hl with | [_, _, _], _ => rfl)
theorem rec_program_at {k : Nat} (Y : Df K mg (top 12) "program_at") (B : Bi mg) {S_word_at : Spec} {j_word_at : Nat} (F_word_at : Fn P w K mg base j_word_at "word_at" S_word_at) (h_word_at : j_word_at ≤ k + 1) (c_WAYS : Cs K mg "WAYS" (.tup [(.str "back"), (.str "aside"), (.str "more"), (.str "other")])) {S : Nat → Spec} (len : ∀ N ds Q Ex, S N ds Q Ex → ds.length = 3) (p : ∀ (N : Nat) (SR : Spec), (∀ ds P Ex, N ≠ 0 → S (N - 1) ds P Ex → SR ds P Ex) → ∀ ds Q Ex, S N ds Q Ex → t_program_at S_word_at SR (startD 6 ds) (endsOf Q Ex)) : ∀ N : Nat, Fn P w K mg base (k + 2 + N) "program_at" (S N)
  | 0 => fn_program_at (k := k + 1) Y B F_word_at h_word_at (no_program_at (k := k) Y) (Nat.le_refl _) c_WAYS (len 0) (p 0 _ fun _ _ _ h0 _ => absurd rfl h0)
  | N + 1 => fn_program_at (k := k + 2 + N) Y B F_word_at (Nat.le_trans h_word_at (by omega)) (rec_program_at Y B F_word_at h_word_at c_WAYS len p N) (Nat.le_refl _) c_WAYS (len (N + 1)) (p (N + 1) _ fun _ _ _ _ h => h)

theorem sc_read : FnScope ["text", "found", "at"] ["text"] (defScope (top 13)) := ⟨rfl, rfl, rfl, by decide +kernel, rfl, by decide +kernel, by decide +kernel⟩
theorem bd_read {k : Nat} {f : Addr} {cdv : Value} {A : Around} {outer : List PySem.Env} {s : Shared} {H : Hp} {E : XK} {g0 : Gh} (B : Bi mg) {S_program_at : Spec} {j_program_at : Nat} (F_program_at : Fn P w K mg base j_program_at "program_at" S_program_at) (h_program_at : j_program_at ≤ k) {S_is_program : Spec} {j_is_program : Nat} (F_is_program : Fn P w K mg base j_is_program "is_program" S_is_program) (h_is_program : j_is_program ≤ k) (X_BadText : XCls K mg "BadText") (C : Cn (cxD P w K mg base ["text", "found", "at"] "read" (defScope (top 13)) f cdv A outer s H E) (wxD E) k) : DPs (cxD P w K mg base ["text", "found", "at"] "read" (defScope (top 13)) f cdv A outer s H E) (wxD E) g0 (defBody (top 13)) (t_read S_program_at S_is_program) := by
  exact dp_cons (dp_asg (sl := [1, 2]) (de_call C F_program_at h_program_at (da_cons (de_var 0) (da_cons (de_int) (da_cons (de_int) (da_nil))))) (dg_tup C.cm (dgs_cons (dg_name 1 C.nd) (dgs_cons (dg_name 2 C.nd) (dgs_nil))) (dlen_cons (live_n) (dlen_cons (live_n) (dlen_nil))))) (dp_cons (dp_if (dt_w (dw_or (ct_is (de_var 1) (de_non)) (dw_or (ct_lt (de_var 2) (dc_len B (da_cons (de_var 0) (da_nil)))) (dw_or1 (dt_not (dt_tru (de_call C F_is_program h_is_program (da_cons (de_var 1) (da_nil))))))))) (dp_one (dp_raise C X_BadText)) (dp_nil)) (dp_one (dp_ret (de_var 1))))
theorem ok_read {k : Nat} {f : Addr} {fd : FuncData} (F : FunD K "read" "read" (defArgs (top 13)) (defBody (top 13)) (defScope (top 13)) [] [] f fd) (B : Bi mg) {S_program_at : Spec} {j_program_at : Nat} (F_program_at : Fn P w K mg base j_program_at "program_at" S_program_at) (h_program_at : j_program_at ≤ k) {S_is_program : Spec} {j_is_program : Nat} (F_is_program : Fn P w K mg base j_is_program "is_program" S_is_program) (h_is_program : j_is_program ≤ k) (X_BadText : XCls K mg "BadText") {S : Spec} (len : ∀ ds Q Ex, S ds Q Ex → ds.length = 1) (spec : ∀ ds Q Ex, S ds Q Ex → t_read S_program_at S_is_program (startD 3 ds) (endsOf Q Ex)) : FnOk P w K mg base (L2.CX P w) (k + 1) f fd ["text"] (spD K S) :=
  fnD F sc_read (fun cdv A outer s H E g0 C => bd_read B F_program_at h_program_at F_is_program h_is_program X_BadText C) len spec
theorem fn_read {k : Nat} (Y : Df K mg (top 13) "read") (B : Bi mg) {S_program_at : Spec} {j_program_at : Nat} (F_program_at : Fn P w K mg base j_program_at "program_at" S_program_at) (h_program_at : j_program_at ≤ k) {S_is_program : Spec} {j_is_program : Nat} (F_is_program : Fn P w K mg base j_is_program "is_program" S_is_program) (h_is_program : j_is_program ≤ k) (X_BadText : XCls K mg "BadText") {S : Spec} (len : ∀ ds Q Ex, S ds Q Ex → ds.length = 1) (spec : ∀ ds Q Ex, S ds Q Ex → t_read S_program_at S_is_program (startD 3 ds) (endsOf Q Ex)) : Fn P w K mg base (k + 1) "read" S := by
  obtain ⟨fd, F, hm⟩ := Y
  exact fn_mk F (ok_read F B F_program_at h_program_at F_is_program h_is_program X_BadText len spec) hm (fun _ _ _ _ _ _ us hl => match us, hl with | [_], _ => rfl)

theorem sc__law_ways : FnScope [] [] (defScope (top 17)) := ⟨rfl, rfl, rfl, by decide +kernel, rfl, by decide +kernel, by decide +kernel⟩
theorem bd__law_ways {k : Nat} {f : Addr} {cdv : Value} {A : Around} {outer : List PySem.Env} {s : Shared} {H : Hp} {E : XK} {g0 : Gh} (B : Bi mg) (C : Cn (cxD P w K mg base [] "_law_ways" (defScope (top 17)) f cdv A outer s H E) (wxD E) k) : DPs (cxD P w K mg base [] "_law_ways" (defScope (top 17)) f cdv A outer s H E) (wxD E) g0 (defBody (top 17)) (t__law_ways) := by
  exact dp_one (dp_ret (de_lst (da_cons (de_str) (da_cons (de_str) (da_cons (de_str) (da_cons (de_str) (da_nil)))))))
theorem ok__law_ways {k : Nat} {f : Addr} {fd : FuncData} (F : FunD K "_law_ways" "_law_ways" (defArgs (top 17)) (defBody (top 17)) (defScope (top 17)) [] [] f fd) (B : Bi mg) {S : Spec} (len : ∀ ds Q Ex, S ds Q Ex → ds.length = 0) (spec : ∀ ds Q Ex, S ds Q Ex → t__law_ways (startD 0 ds) (endsOf Q Ex)) : FnOk P w K mg base (L2.CX P w) (k + 1) f fd [] (spD K S) :=
  fnD F sc__law_ways (fun cdv A outer s H E g0 C => bd__law_ways B C) len spec
theorem fn__law_ways {k : Nat} (Y : Df K mg (top 17) "_law_ways") (B : Bi mg) {S : Spec} (len : ∀ ds Q Ex, S ds Q Ex → ds.length = 0) (spec : ∀ ds Q Ex, S ds Q Ex → t__law_ways (startD 0 ds) (endsOf Q Ex)) : Fn P w K mg base (k + 1) "_law_ways" S := by
  obtain ⟨fd, F, hm⟩ := Y
  exact fn_mk F (ok__law_ways F B len spec) hm (fun _ _ _ _ _ _ us hl => match us, hl with | [], _ => rfl)

theorem sc__law_program : FnScope ["_law_draws", "_law_deep", "_law_way"] ["_law_draws", "_law_deep"] (defScope (top 18)) := ⟨rfl, rfl, rfl, by decide +kernel, rfl, by decide +kernel, by decide +kernel⟩
theorem bd__law_program {k : Nat} {f : Addr} {cdv : Value} {A : Around} {outer : List PySem.Env} {s : Shared} {H : Hp} {E : XK} {g0 : Gh} (B : Bi mg) {S__law_draw : Spec} {j__law_draw : Nat} (F__law_draw : Fn P w K mg base j__law_draw "_law_draw" S__law_draw) (h__law_draw : j__law_draw ≤ k) {S__law_ways : Spec} {j__law_ways : Nat} (F__law_ways : Fn P w K mg base j__law_ways "_law_ways" S__law_ways) (h__law_ways : j__law_ways ≤ k) {S__law_program : Spec} {j__law_program : Nat} (F__law_program : Fn P w K mg base j__law_program "_law_program" S__law_program) (h__law_program : j__law_program ≤ k) (C : Cn (cxD P w K mg base ["_law_draws", "_law_deep", "_law_way"] "_law_program" (defScope (top 18)) f cdv A outer s H E) (wxD E) k) : DPs (cxD P w K mg base ["_law_draws", "_law_deep", "_law_way"] "_law_program" (defScope (top 18)) f cdv A outer s H E) (wxD E) g0 (defBody (top 18)) (t__law_program S__law_draw S__law_ways S__law_program) := by
  exact dp_cons (dp_if (dt_w (dw_or (ct_eq C (de_var 1) (de_int)) (dw_or1 (ct_eq C (de_call C F__law_draw h__law_draw (da_cons (de_var 0) (da_cons (de_int) (da_nil)))) (de_int))))) (dp_one (dp_ret (de_tup (da_cons (de_str) (da_cons (de_ix (de_lst (da_cons (de_str) (da_cons (de_str) (da_cons (de_str) (da_nil))))) (de_call C F__law_draw h__law_draw (da_cons (de_var 0) (da_cons (de_int) (da_nil))))) (da_nil)))))) (dp_nil)) (dp_cons (dp_set 2 C.nd (de_ix (de_call0 C F__law_ways h__law_ways) (de_call C F__law_draw h__law_draw (da_cons (de_var 0) (da_cons (de_int) (da_nil)))))) (dp_one (dp_ret (de_tup (da_cons (de_str) (da_cons (de_var 2) (da_cons (de_call C F__law_program h__law_program (da_cons (de_var 0) (da_cons (de_sub (de_var 1) (de_int)) (da_nil)))) (da_cons (de_call C F__law_program h__law_program (da_cons (de_var 0) (da_cons (de_sub (de_var 1) (de_int)) (da_nil)))) (da_nil)))))))))
theorem ok__law_program {k : Nat} {f : Addr} {fd : FuncData} (F : FunD K "_law_program" "_law_program" (defArgs (top 18)) (defBody (top 18)) (defScope (top 18)) [] [] f fd) (B : Bi mg) {S__law_draw : Spec} {j__law_draw : Nat} (F__law_draw : Fn P w K mg base j__law_draw "_law_draw" S__law_draw) (h__law_draw : j__law_draw ≤ k) {S__law_ways : Spec} {j__law_ways : Nat} (F__law_ways : Fn P w K mg base j__law_ways "_law_ways" S__law_ways) (h__law_ways : j__law_ways ≤ k) {S__law_program : Spec} {j__law_program : Nat} (F__law_program : Fn P w K mg base j__law_program "_law_program" S__law_program) (h__law_program : j__law_program ≤ k) {S : Spec} (len : ∀ ds Q Ex, S ds Q Ex → ds.length = 2) (spec : ∀ ds Q Ex, S ds Q Ex → t__law_program S__law_draw S__law_ways S__law_program (startD 3 ds) (endsOf Q Ex)) : FnOk P w K mg base (L2.CX P w) (k + 1) f fd ["_law_draws", "_law_deep"] (spD K S) :=
  fnD F sc__law_program (fun cdv A outer s H E g0 C => bd__law_program B F__law_draw h__law_draw F__law_ways h__law_ways F__law_program h__law_program C) len spec
theorem fn__law_program {k : Nat} (Y : Df K mg (top 18) "_law_program") (B : Bi mg) {S__law_draw : Spec} {j__law_draw : Nat} (F__law_draw : Fn P w K mg base j__law_draw "_law_draw" S__law_draw) (h__law_draw : j__law_draw ≤ k) {S__law_ways : Spec} {j__law_ways : Nat} (F__law_ways : Fn P w K mg base j__law_ways "_law_ways" S__law_ways) (h__law_ways : j__law_ways ≤ k) {S__law_program : Spec} {j__law_program : Nat} (F__law_program : Fn P w K mg base j__law_program "_law_program" S__law_program) (h__law_program : j__law_program ≤ k) {S : Spec} (len : ∀ ds Q Ex, S ds Q Ex → ds.length = 2) (spec : ∀ ds Q Ex, S ds Q Ex → t__law_program S__law_draw S__law_ways S__law_program (startD 3 ds) (endsOf Q Ex)) : Fn P w K mg base (k + 1) "_law_program" S := by
  obtain ⟨fd, F, hm⟩ := Y
  exact fn_mk F (ok__law_program F B F__law_draw h__law_draw F__law_ways h__law_ways F__law_program h__law_program len spec) hm (fun _ _ _ _ _ _ us hl => match us, hl with | [_, _], _ => rfl)
theorem no__law_program {k : Nat} (Y : Df K mg (top 18) "_law_program") : Fn P w K mg base (k + 1) "_law_program" S_no := by
  obtain ⟨fd, F, hm⟩ := Y
  exact fn_no F sc__law_program hm (fun _ _ _ _ _ _ us hl => match us, hl with | [_, _], _ => rfl)
theorem rec__law_program {k : Nat} (Y : Df K mg (top 18) "_law_program") (B : Bi mg) {S__law_draw : Spec} {j__law_draw : Nat} (F__law_draw : Fn P w K mg base j__law_draw "_law_draw" S__law_draw) (h__law_draw : j__law_draw ≤ k + 1) {S__law_ways : Spec} {j__law_ways : Nat} (F__law_ways : Fn P w K mg base j__law_ways "_law_ways" S__law_ways) (h__law_ways : j__law_ways ≤ k + 1) {S : Nat → Spec} (len : ∀ N ds Q Ex, S N ds Q Ex → ds.length = 2) (p : ∀ (N : Nat) (SR : Spec), (∀ ds P Ex, N ≠ 0 → S (N - 1) ds P Ex → SR ds P Ex) → ∀ ds Q Ex, S N ds Q Ex → t__law_program S__law_draw S__law_ways SR (startD 3 ds) (endsOf Q Ex)) : ∀ N : Nat, Fn P w K mg base (k + 2 + N) "_law_program" (S N)
  | 0 => fn__law_program (k := k + 1) Y B F__law_draw h__law_draw F__law_ways h__law_ways (no__law_program (k := k) Y) (Nat.le_refl _) (len 0) (p 0 _ fun _ _ _ h0 _ => absurd rfl h0)
  | N + 1 => fn__law_program (k := k + 2 + N) Y B F__law_draw (Nat.le_trans h__law_draw (by omega)) F__law_ways (Nat.le_trans h__law_ways (by omega)) (rec__law_program Y B F__law_draw h__law_draw F__law_ways h__law_ways len p N) (Nat.le_refl _) (len (N + 1)) (p (N + 1) _ fun _ _ _ _ h => h)

theorem sc__law_text : FnScope ["_law_program_here"] ["_law_program_here"] (defScope (top 29)) := ⟨rfl, rfl, rfl, by decide +kernel, rfl, by decide +kernel, by decide +kernel⟩
theorem bd__law_text {k : Nat} {f : Addr} {cdv : Value} {A : Around} {outer : List PySem.Env} {s : Shared} {H : Hp} {E : XK} {g0 : Gh} (B : Bi mg) {S__law_text : Spec} {j__law_text : Nat} (F__law_text : Fn P w K mg base j__law_text "_law_text" S__law_text) (h__law_text : j__law_text ≤ k) (C : Cn (cxD P w K mg base ["_law_program_here"] "_law_text" (defScope (top 29)) f cdv A outer s H E) (wxD E) k) : DPs (cxD P w K mg base ["_law_program_here"] "_law_text" (defScope (top 29)) f cdv A outer s H E) (wxD E) g0 (defBody (top 29)) (t__law_text S__law_text) := by
  exact dp_cons (dp_if (ct_eq C (de_ix (de_var 0) (de_int)) (de_str)) (dp_one (dp_ret (de_ix (de_var 0) (de_int)))) (dp_nil)) (dp_one (dp_ret (de_add (de_add (de_add (de_add (de_add (de_ix (de_var 0) (de_int)) (de_str)) (de_call C F__law_text h__law_text (da_cons (de_ix (de_var 0) (de_int)) (da_nil)))) (de_str)) (de_call C F__law_text h__law_text (da_cons (de_ix (de_var 0) (de_int)) (da_nil)))) (de_str))))
theorem ok__law_text {k : Nat} {f : Addr} {fd : FuncData} (F : FunD K "_law_text" "_law_text" (defArgs (top 29)) (defBody (top 29)) (defScope (top 29)) [] [] f fd) (B : Bi mg) {S__law_text : Spec} {j__law_text : Nat} (F__law_text : Fn P w K mg base j__law_text "_law_text" S__law_text) (h__law_text : j__law_text ≤ k) {S : Spec} (len : ∀ ds Q Ex, S ds Q Ex → ds.length = 1) (spec : ∀ ds Q Ex, S ds Q Ex → t__law_text S__law_text (startD 1 ds) (endsOf Q Ex)) : FnOk P w K mg base (L2.CX P w) (k + 1) f fd ["_law_program_here"] (spD K S) :=
  fnD F sc__law_text (fun cdv A outer s H E g0 C => bd__law_text B F__law_text h__law_text C) len spec
theorem fn__law_text {k : Nat} (Y : Df K mg (top 29) "_law_text") (B : Bi mg) {S__law_text : Spec} {j__law_text : Nat} (F__law_text : Fn P w K mg base j__law_text "_law_text" S__law_text) (h__law_text : j__law_text ≤ k) {S : Spec} (len : ∀ ds Q Ex, S ds Q Ex → ds.length = 1) (spec : ∀ ds Q Ex, S ds Q Ex → t__law_text S__law_text (startD 1 ds) (endsOf Q Ex)) : Fn P w K mg base (k + 1) "_law_text" S := by
  obtain ⟨fd, F, hm⟩ := Y
  exact fn_mk F (ok__law_text F B F__law_text h__law_text len spec) hm (fun _ _ _ _ _ _ us hl => match us, hl with | [_], _ => rfl)
theorem no__law_text {k : Nat} (Y : Df K mg (top 29) "_law_text") : Fn P w K mg base (k + 1) "_law_text" S_no := by
  obtain ⟨fd, F, hm⟩ := Y
  exact fn_no F sc__law_text hm (fun _ _ _ _ _ _ us hl => match us, hl with | [_], _ => rfl)
theorem rec__law_text {k : Nat} (Y : Df K mg (top 29) "_law_text") (B : Bi mg) {S : Nat → Spec} (len : ∀ N ds Q Ex, S N ds Q Ex → ds.length = 1) (p : ∀ (N : Nat) (SR : Spec), (∀ ds P Ex, N ≠ 0 → S (N - 1) ds P Ex → SR ds P Ex) → ∀ ds Q Ex, S N ds Q Ex → t__law_text SR (startD 1 ds) (endsOf Q Ex)) : ∀ N : Nat, Fn P w K mg base (k + 2 + N) "_law_text" (S N)
  | 0 => fn__law_text (k := k + 1) Y B (no__law_text (k := k) Y) (Nat.le_refl _) (len 0) (p 0 _ fun _ _ _ h0 _ => absurd rfl h0)
  | N + 1 => fn__law_text (k := k + 2 + N) Y B (rec__law_text Y B len p N) (Nat.le_refl _) (len (N + 1)) (p (N + 1) _ fun _ _ _ _ h => h)

def t__law_bad (m_BadText : Str → Option Bool) (S_read : Spec) : DS := dSeq (dSet 1 (dC (.bl false))) (dSeq (dTry m_BadText (dDrop (dCall S_read (dCons (dVar 0) (dNil)))) (dSet 1 (dC (.bl true)))) (dRet (dVar 1)))
theorem sc__law_bad : FnScope ["_law_text_here", "_law_told"] ["_law_text_here"] (defScope (top 28)) := ⟨rfl, rfl, rfl, by decide +kernel, rfl, by decide +kernel, by decide +kernel⟩
theorem bd__law_bad {k : Nat} {f : Addr} {cdv : Value} {A : Around} {outer : List PySem.Env} {s : Shared} {H : Hp} {E : XK} {g0 : Gh} (B : Bi mg) {S_read : Spec} {j_read : Nat} (F_read : Fn P w K mg base j_read "read" S_read) (h_read : j_read ≤ k) (X_BadText : XCls K mg "BadText") {m_BadText : Str → Option Bool} (M_BadText : Em K "BadText" m_BadText) (C : Cn (cxD P w K mg base ["_law_text_here", "_law_told"] "_law_bad" (defScope (top 28)) f cdv A outer s H E) (wxD E) k) : DPs (cxD P w K mg base ["_law_text_here", "_law_told"] "_law_bad" (defScope (top 28)) f cdv A outer s H E) (wxD E) g0 (defBody (top 28)) (t__law_bad m_BadText S_read) := by
  exact dp_cons (dp_set 1 C.nd (de_bl)) (dp_cons (dp_try C X_BadText M_BadText (fun W0 pn xe C => dp_one (dp_expr (de_call C F_read h_read (da_cons (de_var 0) (da_nil))))) (fun a pn => dp_one (dp_set 1 C.nd (de_bl)))) (dp_one (dp_ret (de_var 1))))
theorem ok__law_bad {k : Nat} {f : Addr} {fd : FuncData} (F : FunD K "_law_bad" "_law_bad" (defArgs (top 28)) (defBody (top 28)) (defScope (top 28)) [] [] f fd) (B : Bi mg) {S_read : Spec} {j_read : Nat} (F_read : Fn P w K mg base j_read "read" S_read) (h_read : j_read ≤ k) (X_BadText : XCls K mg "BadText") {m_BadText : Str → Option Bool} (M_BadText : Em K "BadText" m_BadText) {S : Spec} (len : ∀ ds Q Ex, S ds Q Ex → ds.length = 1) (spec : ∀ ds Q Ex, S ds Q Ex → t__law_bad m_BadText S_read (startD 2 ds) (endsOf Q Ex)) : FnOk P w K mg base (L2.CX P w) (k + 1) f fd ["_law_text_here"] (spD K S) :=
  fnD F sc__law_bad (fun cdv A outer s H E g0 C => bd__law_bad B F_read h_read X_BadText M_BadText C) len spec
theorem fn__law_bad {k : Nat} (Y : Df K mg (top 28) "_law_bad") (B : Bi mg) {S_read : Spec} {j_read : Nat} (F_read : Fn P w K mg base j_read "read" S_read) (h_read : j_read ≤ k) (X_BadText : XCls K mg "BadText") {m_BadText : Str → Option Bool} (M_BadText : Em K "BadText" m_BadText) {S : Spec} (len : ∀ ds Q Ex, S ds Q Ex → ds.length = 1) (spec : ∀ ds Q Ex, S ds Q Ex → t__law_bad m_BadText S_read (startD 2 ds) (endsOf Q Ex)) : Fn P w K mg base (k + 1) "_law_bad" S := by
  obtain ⟨fd, F, hm⟩ := Y
  exact fn_mk F (ok__law_bad F B F_read h_read X_BadText M_BadText len spec) hm (fun _ _ _ _ _ _ us hl => match us, hl with | [_], _ => rfl)

def t__law_cut : DS := dSeq (dSet 1 (dC (.int 0))) (dSeq (dFor (iRange1 (dCons (dB (on1 fLen) (dCons (dVar 0) (dNil))) (dNil))) (dgN 2) (dSeq (dIfS (dTest (dOp fEq (dOp fIx (dVar 0) (dVar 2)) (dC (.str "(")))) (dSet 1 (dOp fAdd (dVar 1) (dC (.int 1)))) (dNext)) (dSeq (dIfS (dTest (dOp fEq (dOp fIx (dVar 0) (dVar 2)) (dC (.str ")")))) (dSet 1 (dOp fSub (dVar 1) (dC (.int 1)))) (dNext)) (dIfS (dAnd (dTest (dOp fEq (dOp fIx (dVar 0) (dVar 2)) (dC (.str ",")))) (dTest (dOp fEq (dVar 1) (dC (.int 0))))) (dRet (dVar 2)) (dNext))))) (dRet (dC .non)))
theorem sc__law_cut : FnScope ["_law_text_here", "_law_deep", "_law_at"] ["_law_text_here"] (defScope (top 30)) := ⟨rfl, rfl, rfl, by decide +kernel, rfl, by decide +kernel, by decide +kernel⟩
theorem bd__law_cut {k : Nat} {f : Addr} {cdv : Value} {A : Around} {outer : List PySem.Env} {s : Shared} {H : Hp} {E : XK} {g0 : Gh} (B : Bi mg) (C : Cn (cxD P w K mg base ["_law_text_here", "_law_deep", "_law_at"] "_law_cut" (defScope (top 30)) f cdv A outer s H E) (wxD E) k) : DPs (cxD P w K mg base ["_law_text_here", "_law_deep", "_law_at"] "_law_cut" (defScope (top 30)) f cdv A outer s H E) (wxD E) g0 (defBody (top 30)) (t__law_cut) := by
  exact dp_cons (dp_set 1 C.nd (de_int)) (dp_cons (dp_for (sl := [2]) C (di_range1 (B.at_ "range") (da_cons (dc_len B (da_cons (de_var 0) (da_nil))) (da_nil))) (fun g0 => dg_name 2 C.nd) (fun g0 => dp_cons (dp_if (ct_eq C (de_ix (de_var 0) (de_var 2)) (de_str)) (dp_one (dp_set 1 C.nd (de_add (de_var 1) (de_int)))) (dp_nil)) (dp_cons (dp_if (ct_eq C (de_ix (de_var 0) (de_var 2)) (de_str)) (dp_one (dp_set 1 C.nd (de_sub (de_var 1) (de_int)))) (dp_nil)) (dp_one (dp_if (dt_w (dw_and (ct_eq C (de_ix (de_var 0) (de_var 2)) (de_str)) (dw_and1 (ct_eq C (de_var 1) (de_int))))) (dp_one (dp_ret (de_var 2))) (dp_nil)))))) (dp_one (dp_ret (de_non))))
theorem ok__law_cut {k : Nat} {f : Addr} {fd : FuncData} (F : FunD K "_law_cut" "_law_cut" (defArgs (top 30)) (defBody (top 30)) (defScope (top 30)) [] [] f fd) (B : Bi mg) {S : Spec} (len : ∀ ds Q Ex, S ds Q Ex → ds.length = 1) (spec : ∀ ds Q Ex, S ds Q Ex → t__law_cut (startD 3 ds) (endsOf Q Ex)) : FnOk P w K mg base (L2.CX P w) (k + 1) f fd ["_law_text_here"] (spD K S) :=
  fnD F sc__law_cut (fun cdv A outer s H E g0 C => bd__law_cut B C) len spec
theorem fn__law_cut {k : Nat} (Y : Df K mg (top 30) "_law_cut") (B : Bi mg) {S : Spec} (len : ∀ ds Q Ex, S ds Q Ex → ds.length = 1) (spec : ∀ ds Q Ex, S ds Q Ex → t__law_cut (startD 3 ds) (endsOf Q Ex)) : Fn P w K mg base (k + 1) "_law_cut" S := by
  obtain ⟨fd, F, hm⟩ := Y
  exact fn_mk F (ok__law_cut F B len spec) hm (fun _ _ _ _ _ _ us hl => match us, hl with | [_], _ => rfl)

def t__law_good (S__law_cut : Spec) (S__law_ways : Spec) (S__law_good : Spec) : DS := dSeq (dSet 2 (dC (.str "abcdefghijklmnopqrstuvwxyz"))) (dSeq (dSet 3 (dFind (dVar 0) (dC (.str "(")))) (dSeq (dIfS (dTest (dOp fLt (dVar 3) (dC (.int 0)))) (dRet (dAndV (dChain fLe fLe (dC (.int 1)) (dB (on1 fLen) (dCons (dVar 0) (dNil))) (dC (.int 8))) (dOp fEq (dB (on1 fLen) (dCons (dLc (iStrD (dVar 0)) (dgN 6) (dTest (dOp fNotIn (dVar 6) (dVar 2))) (dVar 6) [6]) (dNil))) (dC (.int 0))))) (dNext)) (dSeq (dSet 4 (dSl (dVar 0) (dPart (dOp fAdd (dVar 3) (dC (.int 1)))) (dPart (dUn fNeg (dC (.int 1)))))) (dSeq (dSet 5 (dCall S__law_cut (dCons (dVar 4) (dNil)))) (dSeq (dIfS (dOr (dTest (dOp fNotIn (dSl (dVar 0) (dNoP) (dPart (dVar 3))) (dCall S__law_ways dNil))) (dOr (dTest (dOp fNe (dSl (dVar 0) (dPart (dUn fNeg (dC (.int 1)))) (dNoP)) (dC (.str ")")))) (dOr (dTest (dOp fIs (dVar 5) (dC .non))) (dTest (dOp fEq (dVar 1) (dC (.int 0))))))) (dRet (dC (.bl false))) (dNext)) (dSeq (dIfS (dTest (dOp fNe (dSl (dVar 4) (dPart (dVar 5)) (dPart (dOp fAdd (dVar 5) (dC (.int 2))))) (dC (.str ", ")))) (dRet (dC (.bl false))) (dNext)) (dRet (dAndV (dCall S__law_good (dCons (dSl (dVar 4) (dNoP) (dPart (dVar 5))) (dCons (dOp fSub (dVar 1) (dC (.int 1))) (dNil)))) (dCall S__law_good (dCons (dSl (dVar 4) (dPart (dOp fAdd (dVar 5) (dC (.int 2)))) (dNoP)) (dCons (dOp fSub (dVar 1) (dC (.int 1))) (dNil))))))))))))
theorem sc__law_good : FnScope ["_law_text_here", "_law_left", "_law_small", "_law_at", "_law_inner", "_law_cut_here", "_law_sign"] ["_law_text_here", "_law_left"] (defScope (top 31)) := ⟨rfl, rfl, rfl, by decide +kernel, rfl, by decide +kernel, by decide +kernel⟩
theorem bd__law_good {k : Nat} {f : Addr} {cdv : Value} {A : Around} {outer : List PySem.Env} {s : Shared} {H : Hp} {E : XK} {g0 : Gh} (B : Bi mg) {S__law_cut : Spec} {j__law_cut : Nat} (F__law_cut : Fn P w K mg base j__law_cut "_law_cut" S__law_cut) (h__law_cut : j__law_cut ≤ k) {S__law_ways : Spec} {j__law_ways : Nat} (F__law_ways : Fn P w K mg base j__law_ways "_law_ways" S__law_ways) (h__law_ways : j__law_ways ≤ k) {S__law_good : Spec} {j__law_good : Nat} (F__law_good : Fn P w K mg base j__law_good "_law_good" S__law_good) (h__law_good : j__law_good ≤ k) (C : Cn (cxD P w K mg base ["_law_text_here", "_law_left", "_law_small", "_law_at", "_law_inner", "_law_cut_here", "_law_sign"] "_law_good" (defScope (top 31)) f cdv A outer s H E) (wxD E) k) : DPs (cxD P w K mg base ["_law_text_here", "_law_left", "_law_small", "_law_at", "_law_inner", "_law_cut_here", "_law_sign"] "_law_good" (defScope (top 31)) f cdv A outer s H E) (wxD E) g0 (defBody (top 31)) (t__law_good S__law_cut S__law_ways S__law_good) := by
  exact dp_cons (dp_set 2 C.nd (de_str)) (dp_cons (dp_set 3 C.nd (de_find (de_var 0) (de_str))) (dp_cons (dp_if (ct_lt (de_var 3) (de_int)) (dp_one (dp_ret (de_and (de_chain (op_le) (rel_cmp _) (op_le) (rel_cmp _) (de_int) (dc_len B (da_cons (de_var 0) (da_nil))) (de_int)) (de_one (ce_eq C (dc_len B (da_cons (de_lc (own := [("_law_sign", 6)]) C (di_str (de_var 0)) (blkOk_by (show blkC ["_law_text_here", "_law_left", "_law_small", "_law_at", "_law_inner", "_law_cut_here", "_law_sign"] (defScope (top 31)) _ [("_law_sign", 6)] = true from by decide +kernel)) ⟨fun s H Ca cl fp C gb => ⟨dg_name 6 C.nd, dts_one (ct_notin (de_var 6) (de_var 2)), de_var 6⟩⟩) (da_nil))) (de_int)))))) (dp_nil)) (dp_cons (dp_set 4 C.nd (de_sl (de_var 0) (do_some (de_add (de_var 3) (de_int))) (do_some (de_neg (de_int))))) (dp_cons (dp_set 5 C.nd (de_call C F__law_cut h__law_cut (da_cons (de_var 4) (da_nil)))) (dp_cons (dp_if (dt_w (dw_or (ct_notin (de_sl (de_var 0) (do_none) (do_some (de_var 3))) (de_call0 C F__law_ways h__law_ways)) (dw_or (ct_ne C (de_sl (de_var 0) (do_some (de_neg (de_int))) (do_none)) (de_str)) (dw_or (ct_is (de_var 5) (de_non)) (dw_or1 (ct_eq C (de_var 1) (de_int))))))) (dp_one (dp_ret (de_bl))) (dp_nil)) (dp_cons (dp_if (ct_ne C (de_sl (de_var 4) (do_some (de_var 5)) (do_some (de_add (de_var 5) (de_int)))) (de_str)) (dp_one (dp_ret (de_bl))) (dp_nil)) (dp_one (dp_ret (de_and (de_call C F__law_good h__law_good (da_cons (de_sl (de_var 4) (do_none) (do_some (de_var 5))) (da_cons (de_sub (de_var 1) (de_int)) (da_nil)))) (de_one (de_call C F__law_good h__law_good (da_cons (de_sl (de_var 4) (do_some (de_add (de_var 5) (de_int))) (do_none)) (da_cons (de_sub (de_var 1) (de_int)) (da_nil))))))))))))))
theorem ok__law_good {k : Nat} {f : Addr} {fd : FuncData} (F : FunD K "_law_good" "_law_good" (defArgs (top 31)) (defBody (top 31)) (defScope (top 31)) [] [] f fd) (B : Bi mg) {S__law_cut : Spec} {j__law_cut : Nat} (F__law_cut : Fn P w K mg base j__law_cut "_law_cut" S__law_cut) (h__law_cut : j__law_cut ≤ k) {S__law_ways : Spec} {j__law_ways : Nat} (F__law_ways : Fn P w K mg base j__law_ways "_law_ways" S__law_ways) (h__law_ways : j__law_ways ≤ k) {S__law_good : Spec} {j__law_good : Nat} (F__law_good : Fn P w K mg base j__law_good "_law_good" S__law_good) (h__law_good : j__law_good ≤ k) {S : Spec} (len : ∀ ds Q Ex, S ds Q Ex → ds.length = 2) (spec : ∀ ds Q Ex, S ds Q Ex → t__law_good S__law_cut S__law_ways S__law_good (startD 7 ds) (endsOf Q Ex)) : FnOk P w K mg base (L2.CX P w) (k + 1) f fd ["_law_text_here", "_law_left"] (spD K S) :=
  fnD F sc__law_good (fun cdv A outer s H E g0 C => bd__law_good B F__law_cut h__law_cut F__law_ways h__law_ways F__law_good h__law_good C) len spec
theorem fn__law_good {k : Nat} (Y : Df K mg (top 31) "_law_good") (B : Bi mg) {S__law_cut : Spec} {j__law_cut : Nat} (F__law_cut : Fn P w K mg base j__law_cut "_law_cut" S__law_cut) (h__law_cut : j__law_cut ≤ k) {S__law_ways : Spec} {j__law_ways : Nat} (F__law_ways : Fn P w K mg base j__law_ways "_law_ways" S__law_ways) (h__law_ways : j__law_ways ≤ k) {S__law_good : Spec} {j__law_good : Nat} (F__law_good : Fn P w K mg base j__law_good "_law_good" S__law_good) (h__law_good : j__law_good ≤ k) {S : Spec} (len : ∀ ds Q Ex, S ds Q Ex → ds.length = 2) (spec : ∀ ds Q Ex, S ds Q Ex → t__law_good S__law_cut S__law_ways S__law_good (startD 7 ds) (endsOf Q Ex)) : Fn P w K mg base (k + 1) "_law_good" S := by
  obtain ⟨fd, F, hm⟩ := Y
  exact fn_mk F (ok__law_good F B F__law_cut h__law_cut F__law_ways h__law_ways F__law_good h__law_good len spec) hm (fun _ _ _ _ _ _ us hl => match us, hl with | [_, _], _ => rfl)
theorem no__law_good {k : Nat} (Y : Df K mg (top 31) "_law_good") : Fn P w K mg base (k + 1) "_law_good" S_no := by
  obtain ⟨fd, F, hm⟩ := Y
  exact fn_no F sc__law_good hm (fun _ _ _ _ _ _ us hl => match us, hl with | [_, _], _ => rfl)
theorem rec__law_good {k : Nat} (Y : Df K mg (top 31) "_law_good") (B : Bi mg) {S__law_cut : Spec} {j__law_cut : Nat} (F__law_cut : Fn P w K mg base j__law_cut "_law_cut" S__law_cut) (h__law_cut : j__law_cut ≤ k + 1) {S__law_ways : Spec} {j__law_ways : Nat} (F__law_ways : Fn P w K mg base j__law_ways "_law_ways" S__law_ways) (h__law_ways : j__law_ways ≤ k + 1) {S : Nat → Spec} (len : ∀ N ds Q Ex, S N ds Q Ex → ds.length = 2) (p : ∀ (N : Nat) (SR : Spec), (∀ ds P Ex, N ≠ 0 → S (N - 1) ds P Ex → SR ds P Ex) → ∀ ds Q Ex, S N ds Q Ex → t__law_good S__law_cut S__law_ways SR (startD 7 ds) (endsOf Q Ex)) : ∀ N : Nat, Fn P w K mg base (k + 2 + N) "_law_good" (S N)
  | 0 => fn__law_good (k := k + 1) Y B F__law_cut h__law_cut F__law_ways h__law_ways (no__law_good (k := k) Y) (Nat.le_refl _) (len 0) (p 0 _ fun _ _ _ h0 _ => absurd rfl h0)
  | N + 1 => fn__law_good (k := k + 2 + N) Y B F__law_cut (Nat.le_trans h__law_cut (by omega)) F__law_ways (Nat.le_trans h__law_ways (by omega)) (rec__law_good Y B F__law_cut h__law_cut F__law_ways h__law_ways len p N) (Nat.le_refl _) (len (N + 1)) (p (N + 1) _ fun _ _ _ _ h => h)

def t_law (S__law_begin : Spec) (S__law_text : Spec) (S__law_program : Spec) (S__law_draw : Spec) (S__law_bad : Spec) (S__law_good : Spec) : DS := dSeq (dSet 1 (dCall S__law_begin (dCons (dVar 0) (dNil)))) (dSeq (dSet 2 (dCall S__law_text (dCons (dCall S__law_program (dCons (dVar 1) (dCons (dOp fAdd (dC (.int 1)) (dCall S__law_draw (dCons (dVar 1) (dCons (dC (.int 4)) (dNil))))) (dNil)))) (dNil)))) (dSeq (dFor (iRange1 (dCons (dC (.int 6)) (dNil))) (dgN 3) (dSeq (dSet 7 (dCall S__law_draw (dCons (dVar 1) (dCons (dOp fAdd (dB (on1 fLen) (dCons (dVar 2) (dNil))) (dC (.int 1))) (dNil))))) (dSeq (dSet 8 (dOp fIx (dLst (dCons (dC (.str "(")) (dCons (dC (.str ")")) (dCons (dC (.str ",")) (dCons (dC (.str " ")) (dCons (dC (.str "a")) (dCons (dC (.str "k")) (dCons (dC (.str "A")) (dCons (dC (.str "back")) (dCons (dC (.str "")) (dNil))))))))))) (dCall S__law_draw (dCons (dVar 1) (dCons (dC (.int 9)) (dNil)))))) (dSeq (dSet 9 (dCall S__law_draw (dCons (dVar 1) (dCons (dC (.int 2)) (dNil))))) (dSeq (dSet 10 (dOp fAdd (dOp fAdd (dSl (dVar 2) (dNoP) (dPart (dVar 7))) (dVar 8)) (dSl (dVar 2) (dPart (dOp fAdd (dVar 7) (dVar 9))) (dNoP)))) (dIfS (dTest (dOp fNe (dCall S__law_bad (dCons (dVar 10) (dNil))) (dNotV (dCall S__law_good (dCons (dVar 10) (dCons (dC (.int 6)) (dNil))))))) (dRet (dC (.bl false))) (dNext))))))) (dSeq (dSet 4 (dC (.str "hit"))) (dSeq (dFor (iRange1 (dCons (dC (.int 7)) (dNil))) (dgN 3) (dSet 4 (dOp fAdd (dOp fAdd (dC (.str "back(")) (dVar 4)) (dC (.str ", miss)"))))) (dSeq (dSet 5 (dLst (dCons (dC (.str "")) (dCons (dC (.str " ")) (dCons (dC (.str "back")) (dCons (dC (.str "hit miss")) (dCons (dC (.str "back(hit)")) (dCons (dC (.str "back(hit, miss")) (dCons (dC (.str "back(hit,miss)")) (dCons (dC (.str "back (hit, miss)")) (dCons (dVar 4) (dNil)))))))))))) (dSeq (dSet 5 (dOp fAdd (dVar 5) (dLst (dCons (dC (.str "away(hit, miss)")) (dCons (dC (.str "back(hit, miss))")) (dCons (dC (.str "back(, miss)")) (dCons (dC (.str "(hit, miss)")) (dCons (dC (.str "Hit")) (dCons (dC (.str "ninesigns")) (dCons (dC (.str "hit1")) (dNil))))))))))) (dSeq (dSet 6 (dOp fIx (dVar 5) (dCall S__law_draw (dCons (dVar 1) (dCons (dB (on1 fLen) (dCons (dVar 5) (dNil))) (dNil)))))) (dRet (dOp fNe (dCall S__law_bad (dCons (dVar 6) (dNil))) (dOp fEq (dVar 6) (dC (.str "back"))))))))))))
theorem sc_law : FnScope ["_law_script", "_law_draws", "_law_text_here", "_law_k", "_law_deep", "_law_odd", "_law_thing", "_law_at", "_law_sign", "_law_size", "_law_spoilt"] ["_law_script"] (defScope (top 32)) := ⟨rfl, rfl, rfl, by decide +kernel, rfl, by decide +kernel, by decide +kernel⟩
theorem bd_law {k : Nat} {f : Addr} {cdv : Value} {A : Around} {outer : List PySem.Env} {s : Shared} {H : Hp} {E : XK} {g0 : Gh} (B : Bi mg) {S__law_begin : Spec} {j__law_begin : Nat} (F__law_begin : Fn P w K mg base j__law_begin "_law_begin" S__law_begin) (h__law_begin : j__law_begin ≤ k) {S__law_text : Spec} {j__law_text : Nat} (F__law_text : Fn P w K mg base j__law_text "_law_text" S__law_text) (h__law_text : j__law_text ≤ k) {S__law_program : Spec} {j__law_program : Nat} (F__law_program : Fn P w K mg base j__law_program "_law_program" S__law_program) (h__law_program : j__law_program ≤ k) {S__law_draw : Spec} {j__law_draw : Nat} (F__law_draw : Fn P w K mg base j__law_draw "_law_draw" S__law_draw) (h__law_draw : j__law_draw ≤ k) {S__law_bad : Spec} {j__law_bad : Nat} (F__law_bad : Fn P w K mg base j__law_bad "_law_bad" S__law_bad) (h__law_bad : j__law_bad ≤ k) {S__law_good : Spec} {j__law_good : Nat} (F__law_good : Fn P w K mg base j__law_good "_law_good" S__law_good) (h__law_good : j__law_good ≤ k) (C : Cn (cxD P w K mg base ["_law_script", "_law_draws", "_law_text_here", "_law_k", "_law_deep", "_law_odd", "_law_thing", "_law_at", "_law_sign", "_law_size", "_law_spoilt"] "law" (defScope (top 32)) f cdv A outer s H E) (wxD E) k) : DPs (cxD P w K mg base ["_law_script", "_law_draws", "_law_text_here", "_law_k", "_law_deep", "_law_odd", "_law_thing", "_law_at", "_law_sign", "_law_size", "_law_spoilt"] "law" (defScope (top 32)) f cdv A outer s H E) (wxD E) g0 (defBody (top 32)) (t_law S__law_begin S__law_text S__law_program S__law_draw S__law_bad S__law_good) := by
  exact dp_cons (dp_set 1 C.nd (de_call C F__law_begin h__law_begin (da_cons (de_var 0) (da_nil)))) (dp_cons (dp_set 2 C.nd (de_call C F__law_text h__law_text (da_cons (de_call C F__law_program h__law_program (da_cons (de_var 1) (da_cons (de_add (de_int) (de_call C F__law_draw h__law_draw (da_cons (de_var 1) (da_cons (de_int) (da_nil))))) (da_nil)))) (da_nil)))) (dp_cons (dp_for (sl := [3]) C (di_range1 (B.at_ "range") (da_cons (de_int) (da_nil))) (fun g0 => dg_name 3 C.nd) (fun g0 => dp_cons (dp_set 7 C.nd (de_call C F__law_draw h__law_draw (da_cons (de_var 1) (da_cons (de_add (dc_len B (da_cons (de_var 2) (da_nil))) (de_int)) (da_nil))))) (dp_cons (dp_set 8 C.nd (de_ix (de_lst (da_cons (de_str) (da_cons (de_str) (da_cons (de_str) (da_cons (de_str) (da_cons (de_str) (da_cons (de_str) (da_cons (de_str) (da_cons (de_str) (da_cons (de_str) (da_nil))))))))))) (de_call C F__law_draw h__law_draw (da_cons (de_var 1) (da_cons (de_int) (da_nil)))))) (dp_cons (dp_set 9 C.nd (de_call C F__law_draw h__law_draw (da_cons (de_var 1) (da_cons (de_int) (da_nil))))) (dp_cons (dp_set 10 C.nd (de_add (de_add (de_sl (de_var 2) (do_none) (do_some (de_var 7))) (de_var 8)) (de_sl (de_var 2) (do_some (de_add (de_var 7) (de_var 9))) (do_none)))) (dp_one (dp_if (ct_ne C (de_call C F__law_bad h__law_bad (da_cons (de_var 10) (da_nil))) (de_not (de_call C F__law_good h__law_good (da_cons (de_var 10) (da_cons (de_int) (da_nil)))))) (dp_one (dp_ret (de_bl))) (dp_nil)))))))) (dp_cons (dp_set 4 C.nd (de_str)) (dp_cons (dp_for (sl := [3]) C (di_range1 (B.at_ "range") (da_cons (de_int) (da_nil))) (fun g0 => dg_name 3 C.nd) (fun g0 => dp_one (dp_set 4 C.nd (de_add (de_add (de_str) (de_var 4)) (de_str))))) (dp_cons (dp_set 5 C.nd (de_lst (da_cons (de_str) (da_cons (de_str) (da_cons (de_str) (da_cons (de_str) (da_cons (de_str) (da_cons (de_str) (da_cons (de_str) (da_cons (de_str) (da_cons (de_var 4) (da_nil)))))))))))) (dp_cons (dp_set 5 C.nd (de_add (de_var 5) (de_lst (da_cons (de_str) (da_cons (de_str) (da_cons (de_str) (da_cons (de_str) (da_cons (de_str) (da_cons (de_str) (da_cons (de_str) (da_nil))))))))))) (dp_cons (dp_set 6 C.nd (de_ix (de_var 5) (de_call C F__law_draw h__law_draw (da_cons (de_var 1) (da_cons (dc_len B (da_cons (de_var 5) (da_nil))) (da_nil)))))) (dp_one (dp_ret (ce_ne C (de_call C F__law_bad h__law_bad (da_cons (de_var 6) (da_nil))) (ce_eq C (de_var 6) (de_str))))))))))))
theorem ok_law {k : Nat} {f : Addr} {fd : FuncData} (F : FunD K "law" "law" (defArgs (top 32)) (defBody (top 32)) (defScope (top 32)) [] [] f fd) (B : Bi mg) {S__law_begin : Spec} {j__law_begin : Nat} (F__law_begin : Fn P w K mg base j__law_begin "_law_begin" S__law_begin) (h__law_begin : j__law_begin ≤ k) {S__law_text : Spec} {j__law_text : Nat} (F__law_text : Fn P w K mg base j__law_text "_law_text" S__law_text) (h__law_text : j__law_text ≤ k) {S__law_program : Spec} {j__law_program : Nat} (F__law_program : Fn P w K mg base j__law_program "_law_program" S__law_program) (h__law_program : j__law_program ≤ k) {S__law_draw : Spec} {j__law_draw : Nat} (F__law_draw : Fn P w K mg base j__law_draw "_law_draw" S__law_draw) (h__law_draw : j__law_draw ≤ k) {S__law_bad : Spec} {j__law_bad : Nat} (F__law_bad : Fn P w K mg base j__law_bad "_law_bad" S__law_bad) (h__law_bad : j__law_bad ≤ k) {S__law_good : Spec} {j__law_good : Nat} (F__law_good : Fn P w K mg base j__law_good "_law_good" S__law_good) (h__law_good : j__law_good ≤ k) {S : Spec} (len : ∀ ds Q Ex, S ds Q Ex → ds.length = 1) (spec : ∀ ds Q Ex, S ds Q Ex → t_law S__law_begin S__law_text S__law_program S__law_draw S__law_bad S__law_good (startD 11 ds) (endsOf Q Ex)) : FnOk P w K mg base (L2.CX P w) (k + 1) f fd ["_law_script"] (spD K S) :=
  fnD F sc_law (fun cdv A outer s H E g0 C => bd_law B F__law_begin h__law_begin F__law_text h__law_text F__law_program h__law_program F__law_draw h__law_draw F__law_bad h__law_bad F__law_good h__law_good C) len spec
theorem fn_law {k : Nat} (Y : Df K mg (top 32) "law") (B : Bi mg) {S__law_begin : Spec} {j__law_begin : Nat} (F__law_begin : Fn P w K mg base j__law_begin "_law_begin" S__law_begin) (h__law_begin : j__law_begin ≤ k) {S__law_text : Spec} {j__law_text : Nat} (F__law_text : Fn P w K mg base j__law_text "_law_text" S__law_text) (h__law_text : j__law_text ≤ k) {S__law_program : Spec} {j__law_program : Nat} (F__law_program : Fn P w K mg base j__law_program "_law_program" S__law_program) (h__law_program : j__law_program ≤ k) {S__law_draw : Spec} {j__law_draw : Nat} (F__law_draw : Fn P w K mg base j__law_draw "_law_draw" S__law_draw) (h__law_draw : j__law_draw ≤ k) {S__law_bad : Spec} {j__law_bad : Nat} (F__law_bad : Fn P w K mg base j__law_bad "_law_bad" S__law_bad) (h__law_bad : j__law_bad ≤ k) {S__law_good : Spec} {j__law_good : Nat} (F__law_good : Fn P w K mg base j__law_good "_law_good" S__law_good) (h__law_good : j__law_good ≤ k) {S : Spec} (len : ∀ ds Q Ex, S ds Q Ex → ds.length = 1) (spec : ∀ ds Q Ex, S ds Q Ex → t_law S__law_begin S__law_text S__law_program S__law_draw S__law_bad S__law_good (startD 11 ds) (endsOf Q Ex)) : Fn P w K mg base (k + 1) "law" S := by
  obtain ⟨fd, F, hm⟩ := Y
  exact fn_mk F (ok_law F B F__law_begin h__law_begin F__law_text h__law_text F__law_program h__law_program F__law_draw h__law_draw F__law_bad h__law_bad F__law_good h__law_good len spec) hm (fun _ _ _ _ _ _ us hl => match us, hl with | [_], _ => rfl)

theorem sc__law_begin : FnScope ["_law_script"] ["_law_script"] (defScope (top 15)) := ⟨rfl, rfl, rfl, by decide +kernel, rfl, by decide +kernel, by decide +kernel⟩
theorem bd__law_begin {k : Nat} {f : Addr} {cdv : Value} {A : Around} {outer : List PySem.Env} {s : Shared} {H : Hp} {E : XK} {g0 : Gh} (B : Bi mg) (C : Cn (cxD P w K mg base ["_law_script"] "_law_begin" (defScope (top 15)) f cdv A outer s H E) (wxD E) k) :
    DPs (cxD P w K mg base ["_law_script"] "_law_begin" (defScope (top 15)) f cdv A outer s H E) (wxD E) g0 (defBody (top 15)) dBegin :=
  PSs.imp (pss_one (ps_ret (pe_lst (pa_cons (pe_callTy call_list_of (by rfl) (B.at_ "list") bt_list (pa_cons (pe_var (i := 0) rfl (Or.inl rfl)) pa_nil)) (pa_cons pe_int (pa_cons pe_int (pa_cons pe_int pa_nil))))))) fun E σ H h => begin_sound h
theorem fn__law_begin {k : Nat} (Y : Df K mg (top 15) "_law_begin") (B : Bi mg) : Fn P w K mg base (k + 1) "_law_begin" S__law_begin := by
  obtain ⟨fd, F, hm⟩ := Y
  exact fn_mk F (fnD F sc__law_begin (fun cdv A outer s H E g0 C => bd__law_begin B C) (fun ds Q Ex h => by obtain ⟨ns, rfl, _⟩ := h; rfl) (fun ds Q Ex h => by obtain ⟨ns, rfl, h⟩ := h; exact ⟨ns, rfl, h⟩)) hm (fun _ _ _ _ _ _ us hl => match us, hl with | [_], _ => rfl)
theorem sc__law_draw : FnScope ["_law_draws", "_law_size", "_law_cell", "_law_found"] ["_law_draws", "_law_size"] (defScope (top 16)) := ⟨rfl, rfl, rfl, by decide +kernel, rfl, by decide +kernel, by decide +kernel⟩
section
variable {k : Nat} {f : Addr} {cdv : Value} {A : Around} {outer : List PySem.Env} {s : Shared} {H : Hp} {E : XK} {g0 : Gh}
abbrev cxDraw (P : Program) (w : World) (K : PySem.W.Frag) (mg : Str → Option Value) (base : Heap) (f : Addr) (cdv : Value) (A : Around) (outer : List PySem.Env) (s : Shared) (H : Hp) (E : XK) : Cx :=
  cxD P w K mg base ["_law_draws", "_law_size", "_law_cell", "_law_found"] "_law_draw" (defScope (top 16)) f cdv A outer s H E
theorem dr_at {k : Int} {j : Nat} {p1 p2 p3 : Pos} : PE (cxDraw P w K mg base f cdv A outer s H E) (.Subscript (.Name "_law_draws" p1) (.Constant (.int k) j p2) p3) (tAt (cxDraw P w K mg base f cdv A outer s H E) k) :=
  pe_ix ix_seq (pe_var (i := 0) rfl (Or.inl rfl)) pe_int (fun _ _ => rfl)
theorem bd__law_draw (B : Bi mg) (C : Cn (cxDraw P w K mg base f cdv A outer s H E) (wxD E) k) : DPs (cxDraw P w K mg base f cdv A outer s H E) (wxD E) g0 (defBody (top 16)) dDraw := by
  refine PSs.imp (t := tDraw (cxDraw P w K mg base f cdv A outer s H E)) ?_ fun E σ H h => draw_sound h
  exact pss_cons (ps_if (pt_cmpR op_eq dr_at pe_int (nomark _))
      (pss_one (ps_if (pt_cmpR op_lt dr_at (pe_callB call_len_seq (by rfl) (B.at_ "len") bt_len (pa_cons dr_at pa_nil)) (nomark _))
        (pss_cons (ps_set (i := 2) C.nd rfl (Or.inl rfl) (pe_ix ix_seq dr_at dr_at (fun _ _ => rfl)))
          (pss_cons (ps_asg (pe_op op_add dr_at pe_int) (pg_sub (pe_var (i := 0) rfl (Or.inl rfl)) pe_int set_list))
            (pss_one (ps_if (pt_cmpR op_ge (pe_var (i := 2) rfl (Or.inl rfl)) (pe_op op_pow pe_int pe_int) (nomark _))
              (pss_one (ps_asg (pe_var (i := 2) rfl (Or.inl rfl)) (pg_sub (pe_var (i := 0) rfl (Or.inl rfl)) pe_int set_list)))
              (pss_one (ps_asg (pe_op op_mod (pe_callTy call_int1 (by rfl) (B.at_ "int") bt_int (pa_cons (pe_op op_add (pe_op op_add (pe_op opr_mul dr_at pe_int) (pe_op opr_mul (pe_var (i := 2) rfl (Or.inl rfl)) pe_int)) pe_int) pa_nil)) pe_int)
                (pg_sub (pe_var (i := 0) rfl (Or.inl rfl)) pe_int set_list)))))))
        (pss_one (ps_asg (pe_op op_mod (pe_callTy call_int1 (by rfl) (B.at_ "int") bt_int (pa_cons (pe_op op_add (pe_op opr_mul dr_at pe_int) pe_int) pa_nil)) pe_int) (pg_sub (pe_var (i := 0) rfl (Or.inl rfl)) pe_int set_list)))))
      pss_nil)
    (pss_cons (ps_if (pt_cmpR op_gt dr_at pe_int (nomark _))
        (pss_cons (ps_set (i := 3) C.nd rfl (Or.inl rfl) (pe_op op_mod (pe_callTy call_int1 (by rfl) (B.at_ "int") bt_int (pa_cons dr_at pa_nil)) (pe_var (i := 1) rfl (Or.inl rfl))))
          (pss_cons (ps_asg (pe_op op_fdiv dr_at (pe_var (i := 1) rfl (Or.inl rfl))) (pg_sub (pe_var (i := 0) rfl (Or.inl rfl)) pe_int set_list)) (pss_one (ps_ret (pe_var (i := 3) rfl (Or.inl rfl))))))
        pss_nil)
      (pss_one (ps_ret (pe_op op_mod (pe_op op_mod (pe_callTy call_int1 (by rfl) (B.at_ "int") bt_int (pa_cons (pe_op opr_mul dr_at pe_int) pa_nil)) pe_int) (pe_var (i := 1) rfl (Or.inl rfl))))))
theorem fn__law_draw (Y : Df K mg (top 16) "_law_draw") (B : Bi mg) : Fn P w K mg base (k + 1) "_law_draw" S__law_draw := by
  obtain ⟨fd, F, hm⟩ := Y
  exact fn_mk F (fnD F sc__law_draw (fun cdv A outer s H E g0 C => bd__law_draw B C) (fun ds Q Ex h => by obtain ⟨n, rfl, _⟩ := h; rfl) (fun ds Q Ex h => by obtain ⟨n, rfl, h1, h2, h⟩ := h; exact ⟨n, rfl, h1, h2, h⟩)) hm (fun _ _ _ _ _ _ us hl => match us, hl with | [_, _], _ => rfl)
end

end
end AU

namespace AU
open PySem L2 PySem.Spec PyProof.Rows
def d0 : He.DefD := ⟨("is_word", none), "is_word", "is_word", defArgs (top 7), defBody (top 7), defScope (top 7), [], []⟩
def d1 : He.DefD := ⟨("is_within", none), "is_within", "is_within", defArgs (top 8), defBody (top 8), defScope (top 8), [], []⟩
def d2 : He.DefD := ⟨("is_program", none), "is_program", "is_program", defArgs (top 9), defBody (top 9), defScope (top 9), [], []⟩
def d3 : He.DefD := ⟨("word_at", none), "word_at", "word_at", defArgs (top 11), defBody (top 11), defScope (top 11), [], []⟩
def d4 : He.DefD := ⟨("program_at", none), "program_at", "program_at", defArgs (top 12), defBody (top 12), defScope (top 12), [], []⟩
def d5 : He.DefD := ⟨("read", none), "read", "read", defArgs (top 13), defBody (top 13), defScope (top 13), [], []⟩
def d6 : He.DefD := ⟨("_law_begin", none), "_law_begin", "_law_begin", defArgs (top 15), defBody (top 15), defScope (top 15), [], []⟩
def d7 : He.DefD := ⟨("_law_draw", none), "_law_draw", "_law_draw", defArgs (top 16), defBody (top 16), defScope (top 16), [], []⟩
def d8 : He.DefD := ⟨("_law_ways", none), "_law_ways", "_law_ways", defArgs (top 17), defBody (top 17), defScope (top 17), [], []⟩
def d9 : He.DefD := ⟨("_law_program", none), "_law_program", "_law_program", defArgs (top 18), defBody (top 18), defScope (top 18), [], []⟩
def d10 : He.DefD := ⟨("_law_tree", none), "_law_tree", "_law_tree", defArgs (top 19), defBody (top 19), defScope (top 19), [], []⟩
def d11 : He.DefD := ⟨("_law_behind", none), "_law_behind", "_law_behind", defArgs (top 20), defBody (top 20), defScope (top 20), [], []⟩
def d12 : He.DefD := ⟨("_law_need", none), "_law_need", "_law_need", defArgs (top 21), defBody (top 21), defScope (top 21), [], []⟩
def d13 : He.DefD := ⟨("_law_common", none), "_law_common", "_law_common", defArgs (top 22), defBody (top 22), defScope (top 22), [], []⟩
def d14 : He.DefD := ⟨("_law_low", none), "_law_low", "_law_low", defArgs (top 23), defBody (top 23), defScope (top 23), [], []⟩
def d15 : He.DefD := ⟨("_law_walk", none), "_law_walk", "_law_walk", defArgs (top 24), defBody (top 24), defScope (top 24), [], []⟩
def d16 : He.DefD := ⟨("_law_sum", none), "_law_sum", "_law_sum", defArgs (top 25), defBody (top 25), defScope (top 25), [], []⟩
def d17 : He.DefD := ⟨("_law_marks", none), "_law_marks", "_law_marks", defArgs (top 26), defBody (top 26), defScope (top 26), [], []⟩
def d18 : He.DefD := ⟨("_law_urn", none), "_law_urn", "_law_urn", defArgs (top 27), defBody (top 27), defScope (top 27), [], []⟩
def d19 : He.DefD := ⟨("_law_bad", none), "_law_bad", "_law_bad", defArgs (top 28), defBody (top 28), defScope (top 28), [], []⟩
def d20 : He.DefD := ⟨("_law_text", none), "_law_text", "_law_text", defArgs (top 29), defBody (top 29), defScope (top 29), [], []⟩
def d21 : He.DefD := ⟨("_law_cut", none), "_law_cut", "_law_cut", defArgs (top 30), defBody (top 30), defScope (top 30), [], []⟩
def d22 : He.DefD := ⟨("_law_good", none), "_law_good", "_law_good", defArgs (top 31), defBody (top 31), defScope (top 31), [], []⟩
def d23 : He.DefD := ⟨("law", none), "law", "law", defArgs (top 32), defBody (top 32), defScope (top 32), [], []⟩
def fnL : List He.DefD := [d0, d1, d2, d3, d4, d5, d6, d7, d8, d9, d10, d11, d12, d13, d14, d15, d16, d17, d18, d19, d20, d21, d22, d23]
def mt_BadText (c : Str) : Option Bool := if c = "UrnError" then some false else if c = "BadText" then some true else none
def faL : List He.Fa := [.glo "is_word", .glo "is_within", .glo "is_program", .glo "word_at", .glo "program_at", .glo "read", .glo "_law_begin", .glo "_law_draw", .glo "_law_ways", .glo "_law_program", .glo "_law_tree", .glo "_law_behind", .glo "_law_need", .glo "_law_common", .glo "_law_low", .glo "_law_walk", .glo "_law_sum", .glo "_law_marks", .glo "_law_urn", .glo "_law_bad", .glo "_law_text", .glo "_law_cut", .glo "_law_good", .glo "law", .glo "WAYS", .int "MOST_DRAWS" 6, .str "SMALL" "abcdefghijklmnopqrstuvwxyz", .glo "UrnError", .exc "UrnError", .glo "BadText", .exc "BadText", .exm "UrnError" "BadText" false, .exm "BadText" "BadText" true]
def exL (K : PySem.W.Frag) : Bool := (He.tupB K "WAYS" ((["back", "aside", "more", "other"] : List Str).map He.Dv.str)) && (biN.all fun x => (He.Fa.free x).ok K)
def loose : List Str := (["UrnError", "BadText", "WAYS", "MOST_DRAWS", "SMALL", "is_word", "is_within", "is_program", "word_at", "program_at", "read", "_law_begin", "_law_draw", "_law_ways", "_law_program", "_law_tree", "_law_behind", "_law_need", "_law_common", "_law_low", "_law_walk", "_law_sum", "_law_marks", "_law_urn", "_law_bad", "_law_text", "_law_cut", "_law_good"] : List Str)
abbrev RL : PySem.W.OpenRow := PySem.W.OpenLaw.row PySem.Challenge.rw_anyurn_k10_texts_refused
abbrev hkL : PySem.W.Hook := hookE 4 faL fnL exL
def obL (s : PySem.W.SharedT) : AlE := obsEG 4 faL fnL exL (HandSHeadRun.getT s)
theorem obL_eq (s : PySem.W.SharedT) : obL s = hkL.obs s.abs := obsEG_eq (HandSHeadRun.getT_eq s)
theorem runL (w : World) : HandSHeadRun.RunEq RL (PySem.W.view RL.prog [32]) hkL obL 20000 loose w := by
  intro os
  kernel_rfl
structure Kit (K : PySem.W.Frag) (mg : Str → Option Value) : Prop where
  bi : Bi mg
  y_is_word : Df K mg (top 7) "is_word"
  y_is_within : Df K mg (top 8) "is_within"
  y_is_program : Df K mg (top 9) "is_program"
  y_word_at : Df K mg (top 11) "word_at"
  y_program_at : Df K mg (top 12) "program_at"
  y_read : Df K mg (top 13) "read"
  y__law_begin : Df K mg (top 15) "_law_begin"
  y__law_draw : Df K mg (top 16) "_law_draw"
  y__law_ways : Df K mg (top 17) "_law_ways"
  y__law_program : Df K mg (top 18) "_law_program"
  y__law_tree : Df K mg (top 19) "_law_tree"
  y__law_behind : Df K mg (top 20) "_law_behind"
  y__law_need : Df K mg (top 21) "_law_need"
  y__law_common : Df K mg (top 22) "_law_common"
  y__law_low : Df K mg (top 23) "_law_low"
  y__law_walk : Df K mg (top 24) "_law_walk"
  y__law_sum : Df K mg (top 25) "_law_sum"
  y__law_marks : Df K mg (top 26) "_law_marks"
  y__law_urn : Df K mg (top 27) "_law_urn"
  y__law_bad : Df K mg (top 28) "_law_bad"
  y__law_text : Df K mg (top 29) "_law_text"
  y__law_cut : Df K mg (top 30) "_law_cut"
  y__law_good : Df K mg (top 31) "_law_good"
  y_law : Df K mg (top 32) "law"
  c_WAYS : Cs K mg "WAYS" (.tup [(.str "back"), (.str "aside"), (.str "more"), (.str "other")])
  c_MOST_DRAWS : Cs K mg "MOST_DRAWS" (.int 6)
  c_SMALL : Cs K mg "SMALL" (.str "abcdefghijklmnopqrstuvwxyz")
  x_UrnError : XCls K mg "UrnError"
  x_BadText : XCls K mg "BadText"
  m_BadText : Em K "BadText" mt_BadText
theorem kit_all_of {K : PySem.W.Frag} {h : Heap} {mg : Str → Option Value} (X : K.In h) (G : h.Ns mainGlobals mg) (c : SaysE faL fnL exL K) : Kit K mg := by
  obtain ⟨c, e⟩ := c
  have e := e
  unfold exL at e
  simp only [Bool.and_eq_true] at e
  refine ⟨bi_of X G e.2, ?_, ?_, ?_, ?_, ?_, ?_, ?_, ?_, ?_, ?_, ?_, ?_, ?_, ?_, ?_, ?_, ?_, ?_, ?_, ?_, ?_, ?_, ?_, ?_, ?_, ?_, ?_, ?_, ?_, ?_⟩
  · obtain ⟨fd, F⟩ := c.def_ 0 (d := d0) rfl
    exact ⟨fd, F, He.glo_ok X G (c.fact 0 (f := .glo "is_word") rfl)⟩
  · obtain ⟨fd, F⟩ := c.def_ 1 (d := d1) rfl
    exact ⟨fd, F, He.glo_ok X G (c.fact 1 (f := .glo "is_within") rfl)⟩
  · obtain ⟨fd, F⟩ := c.def_ 2 (d := d2) rfl
    exact ⟨fd, F, He.glo_ok X G (c.fact 2 (f := .glo "is_program") rfl)⟩
  · obtain ⟨fd, F⟩ := c.def_ 3 (d := d3) rfl
    exact ⟨fd, F, He.glo_ok X G (c.fact 3 (f := .glo "word_at") rfl)⟩
  · obtain ⟨fd, F⟩ := c.def_ 4 (d := d4) rfl
    exact ⟨fd, F, He.glo_ok X G (c.fact 4 (f := .glo "program_at") rfl)⟩
  · obtain ⟨fd, F⟩ := c.def_ 5 (d := d5) rfl
    exact ⟨fd, F, He.glo_ok X G (c.fact 5 (f := .glo "read") rfl)⟩
  · obtain ⟨fd, F⟩ := c.def_ 6 (d := d6) rfl
    exact ⟨fd, F, He.glo_ok X G (c.fact 6 (f := .glo "_law_begin") rfl)⟩
  · obtain ⟨fd, F⟩ := c.def_ 7 (d := d7) rfl
    exact ⟨fd, F, He.glo_ok X G (c.fact 7 (f := .glo "_law_draw") rfl)⟩
  · obtain ⟨fd, F⟩ := c.def_ 8 (d := d8) rfl
    exact ⟨fd, F, He.glo_ok X G (c.fact 8 (f := .glo "_law_ways") rfl)⟩
  · obtain ⟨fd, F⟩ := c.def_ 9 (d := d9) rfl
    exact ⟨fd, F, He.glo_ok X G (c.fact 9 (f := .glo "_law_program") rfl)⟩
  · obtain ⟨fd, F⟩ := c.def_ 10 (d := d10) rfl
    exact ⟨fd, F, He.glo_ok X G (c.fact 10 (f := .glo "_law_tree") rfl)⟩
  · obtain ⟨fd, F⟩ := c.def_ 11 (d := d11) rfl
    exact ⟨fd, F, He.glo_ok X G (c.fact 11 (f := .glo "_law_behind") rfl)⟩
  · obtain ⟨fd, F⟩ := c.def_ 12 (d := d12) rfl
    exact ⟨fd, F, He.glo_ok X G (c.fact 12 (f := .glo "_law_need") rfl)⟩
  · obtain ⟨fd, F⟩ := c.def_ 13 (d := d13) rfl
    exact ⟨fd, F, He.glo_ok X G (c.fact 13 (f := .glo "_law_common") rfl)⟩
  · obtain ⟨fd, F⟩ := c.def_ 14 (d := d14) rfl
    exact ⟨fd, F, He.glo_ok X G (c.fact 14 (f := .glo "_law_low") rfl)⟩
  · obtain ⟨fd, F⟩ := c.def_ 15 (d := d15) rfl
    exact ⟨fd, F, He.glo_ok X G (c.fact 15 (f := .glo "_law_walk") rfl)⟩
  · obtain ⟨fd, F⟩ := c.def_ 16 (d := d16) rfl
    exact ⟨fd, F, He.glo_ok X G (c.fact 16 (f := .glo "_law_sum") rfl)⟩
  · obtain ⟨fd, F⟩ := c.def_ 17 (d := d17) rfl
    exact ⟨fd, F, He.glo_ok X G (c.fact 17 (f := .glo "_law_marks") rfl)⟩
  · obtain ⟨fd, F⟩ := c.def_ 18 (d := d18) rfl
    exact ⟨fd, F, He.glo_ok X G (c.fact 18 (f := .glo "_law_urn") rfl)⟩
  · obtain ⟨fd, F⟩ := c.def_ 19 (d := d19) rfl
    exact ⟨fd, F, He.glo_ok X G (c.fact 19 (f := .glo "_law_bad") rfl)⟩
  · obtain ⟨fd, F⟩ := c.def_ 20 (d := d20) rfl
    exact ⟨fd, F, He.glo_ok X G (c.fact 20 (f := .glo "_law_text") rfl)⟩
  · obtain ⟨fd, F⟩ := c.def_ 21 (d := d21) rfl
    exact ⟨fd, F, He.glo_ok X G (c.fact 21 (f := .glo "_law_cut") rfl)⟩
  · obtain ⟨fd, F⟩ := c.def_ 22 (d := d22) rfl
    exact ⟨fd, F, He.glo_ok X G (c.fact 22 (f := .glo "_law_good") rfl)⟩
  · obtain ⟨fd, F⟩ := c.def_ 23 (d := d23) rfl
    exact ⟨fd, F, He.glo_ok X G (c.fact 23 (f := .glo "law") rfl)⟩
  · exact cs_tup (zs := ["back", "aside", "more", "other"]) X G (c.fact 24 (f := .glo "WAYS") rfl) e.1
  · exact cs_int X G (c.fact 25 (f := .int "MOST_DRAWS" 6) rfl)
  · exact cs_str X G (c.fact 26 (f := .str "SMALL" "abcdefghijklmnopqrstuvwxyz") rfl)
  · exact xcls X G (c.fact 27 (f := .glo "UrnError") rfl) (c.fact 28 (f := .exc "UrnError") rfl)
  · exact xcls X G (c.fact 29 (f := .glo "BadText") rfl) (c.fact 30 (f := .exc "BadText") rfl)
  · intro z b hcb
    unfold mt_BadText at hcb
    split at hcb
    · rename_i e; cases hcb; subst e; exact He.exm_ok (c.fact 31 (f := .exm "UrnError" "BadText" false) rfl)
    split at hcb
    · rename_i e; cases hcb; subst e; exact He.exm_ok (c.fact 32 (f := .exm "BadText" "BadText" true) rfl)
    cases hcb
end AU

/-! AuP1: plain laws: words, programs. -/
namespace AU
open PySem L2 PySem.Spec PyProof.Rows

/-- a comprehension that maps -/
theorem lcN_map {gt : DG} {te : DT} {ρ : Rho} (f : D → D) : ∀ (ds acc : List D) (P : List D → Prop), acc.length + ds.length ≤ 16777216 → (∀ d ∈ ds, ∀ R : D → Prop, R (f d) → gt d ρ (fun ρ1 => te ρ1 R noX)) → P (acc ++ ds.map f) → lcN gt dYes te ρ ds acc P
  | [], acc, P, _, _, h => by rw [List.map_nil, List.append_nil] at h; exact h
  | d :: ds, acc, P, hl, hg, h => by
    have hl' : acc.length + (ds.length + 1) ≤ 16777216 := by rw [List.length_cons] at hl; exact hl
    have := hg d List.mem_cons_self (fun y => acc.length < 16777216 ∧ lcN gt dYes te ρ ds (acc ++ [y]) P) ⟨by omega, lcN_map f ds (acc ++ [f d]) P (by rw [List.length_append, List.length_singleton]; omega) (fun d' h' => hg d' (List.mem_cons_of_mem _ h')) (by rw [List.append_assoc]; exact h)⟩
    show gt d ρ fun ρ1 => dYes ρ1 (fun b => if b = true then te ρ1 (fun y => acc.length < 16777216 ∧ lcN gt dYes te ρ ds (acc ++ [y]) P) noX else lcN gt dYes te ρ ds acc P) noX
    exact this

/-! ### words -/
def smallB (c : Nat) : Bool := decide (c ∈ ("abcdefghijklmnopqrstuvwxyz" : Str).cps.toList)
def wordB (w : Str) : Bool := decide (1 ≤ w.length) && (decide (w.length ≤ 8) && w.cps.toList.all smallB)
def isWordD : D → Bool
  | .str w => wordB w
  | _ => false
def kn1 (d : D) : Prop := known d = true ∧ ∀ w, d = .str w → w.length ≤ 16777216
def S_is_word : Spec := fun ds P _ => ∃ d, ds = [d] ∧ kn1 d ∧ P (.bl (isWordD d))
theorem p_is_word : ∀ ds Q Ex, S_is_word ds Q Ex → t_is_word (startD 2 ds) (endsOf Q Ex) := by
  rintro _ Q Ex ⟨d, rfl, ⟨hk, hl⟩, h⟩
  cases d with
  | str w =>
    have hl := hl w rfl
    have e : isWordD (.str w) = (decide (1 ≤ w.length) && (decide (w.length ≤ 8) && w.cps.toList.all smallB)) := rfl
    have hw : w.cps.toList.length = w.length := by simp [Str.length]
    rw [e] at h
    simp [t_is_word, hl]
    split
    · rename_i h1
      split
      · rename_i h2
        refine lcN_map (fun d => match d with | .str x => .bl (x.cps.toList.all smallB) | _ => .non) _ [] _ ?_ ?_ ?_
        · simp only [List.length_nil, List.length_map, hw]
          omega
        · intro d hd R hR
          obtain ⟨c, _, rfl⟩ := List.mem_map.mp hd
          simp [sign?]
          simpa [smallB] using hR
        · refine ⟨w.cps.toList.map smallB, ?_, ?_⟩
          · rw [List.nil_append, List.map_map, ← bools_map, List.map_map]
            congr 1
            apply List.map_congr_left
            intro c _
            simp
          · rw [decide_eq_true (by omega), decide_eq_true (by omega)] at h
            simpa [List.all_map] using h
      · rw [decide_eq_false (show ¬ w.length ≤ 8 by omega)] at h
        simpa using h
    · rw [decide_eq_false (show ¬ 1 ≤ w.length by omega)] at h
      simpa using h
  | _ => first | (simp [t_is_word]; exact h) | (simp at hk)

/-! ### programs -/
/-- a program -/
inductive Pg where
  | mark (w : Str)
  | draw (way : Str) (red blue : Pg)
def Pg.d : Pg → D
  | .mark w => .tup [.str "mark", .str w]
  | .draw way r b => .tup [.str "draw", .str way, r.d, b.d]
def wayB (w : Str) : Bool := decide (w = "back") || (decide (w = "aside") || (decide (w = "more") || decide (w = "other")))
/-- within: what is told of any thing -/
def withinD (n : Nat) (d : D) : Bool := match d with
  | .tup (.str h :: r) => if h = "mark" then (match r with
      | [w] => isWordD w
      | _ => false) else if h = "draw" then (match r with
      | [.str way, a, b] => (match n with
        | 0 => false
        | n + 1 => wayB way && (withinD n a && withinD n b))
      | _ => false) else false
  | _ => false
/-- a thing that isinstance knows, and all that is in it so deep -/
def Kn : Nat → D → Prop
  | 0, d => kn1 d
  | n + 1, d => kn1 d ∧ ∀ ds, d = .tup ds → ∀ x ∈ ds, Kn n x
theorem Kn.one : ∀ {n : Nat} {d : D}, Kn n d → kn1 d
  | 0, _, h => h
  | _ + 1, _, h => h.1
def S_is_within (N : Nat) : Spec := fun ds P _ => ∃ (d : D) (n : Nat), ds = [d, .int n] ∧ n ≤ N ∧ Kn (n + 1) d ∧ P (.bl (withinD n d))
@[simp] theorem s_draw_mark : (("draw" : Str) = "mark") = False := by simp only [eq_iff_iff, iff_false]; decide +kernel
@[simp] theorem s_mark_draw : (("mark" : Str) = "draw") = False := by simp only [eq_iff_iff, iff_false]; decide +kernel
theorem atI_n {l : List D} {i : Nat} (h : i < l.length) : atI l (i : Int) = l[i]? := by
  unfold atI ixN
  rw [if_pos (by omega), if_pos (by omega)]
  rfl
@[simp] theorem atI0 {a : D} {r : List D} : atI (a :: r) 0 = some a := atI_n (l := a :: r) (i := 0) (by simp)
@[simp] theorem atI1 {a b : D} {r : List D} : atI (a :: b :: r) 1 = some b := atI_n (l := a :: b :: r) (i := 1) (by simp)
@[simp] theorem atI2 {a b c : D} {r : List D} : atI (a :: b :: c :: r) 2 = some c := atI_n (l := a :: b :: c :: r) (i := 2) (by simp)
@[simp] theorem atI3 {a b c d : D} {r : List D} : atI (a :: b :: c :: d :: r) 3 = some d := atI_n (l := a :: b :: c :: d :: r) (i := 3) (by simp)
theorem p_is_within (N : Nat) (SR : Spec) (hr : ∀ ds P Ex, N ≠ 0 → S_is_within (N - 1) ds P Ex → SR ds P Ex) : ∀ ds Q Ex, S_is_within N ds Q Ex → t_is_within S_is_word SR (startD 2 ds) (endsOf Q Ex) := by
  rintro _ Q Ex ⟨d, n, rfl, hn, ⟨⟨hk, _⟩, hd⟩, h⟩
  unfold withinD at h
  cases d with
  | tup ds =>
    have hd := hd ds rfl
    cases ds with
    | nil => simpa [t_is_within] using h
    | cons x r =>
      have kx := (hd x List.mem_cons_self).one.1
      cases x with
      | str m =>
        by_cases hm : m = "mark"
        · subst hm
          simp at h
          match r, hd, h with
          | [], _, h => simpa [t_is_within] using h
          | [w], hd, h =>
            simp [t_is_within]
            exact ⟨w, rfl, (hd w (by simp)).one, h⟩
          | _ :: _ :: r, _, h =>
            simp [t_is_within]
            rw [if_neg (by omega)]
            exact h
        · by_cases hm2 : m = "draw"
          · subst hm2
            simp at h
            match r, hd, h with
            | [], _, h => simpa [t_is_within] using h
            | [_], _, h => simpa [t_is_within] using h
            | [_, _], _, h => simpa [t_is_within] using h
            | [wy, a, b], hd, h =>
              cases n with
              | zero =>
                simp [t_is_within]
                have e : Q (.bl false) := by cases wy <;> exact h
                exact e
              | succ n =>
                have ka : Kn (n + 1) a := hd a (by simp)
                have kb : Kn (n + 1) b := hd b (by simp)
                have kw := (hd wy (by simp)).one.1
                have go : ∀ (x : D) (P : D → Prop) (Ex : Str → Prop), Kn (n + 1) x → P (.bl (withinD n x)) → SR [x, .int (n : Int)] P Ex := fun x P Ex kx hP => hr _ _ _ (by omega) ⟨x, n, rfl, by omega, kx, hP⟩
                cases wy with
                | str way =>
                  simp at h
                  simp [t_is_within]
                  have ew : wayB way = true ↔ (inL (.str way) [.str "back", .str "aside", .str "more", .str "other"] = true) := by
                    simp [wayB, inL, deq, @eq_comm Str way]
                  by_cases hw : wayB way = true
                  · rw [if_neg (by omega), if_pos (ew.mp hw)]
                    refine go _ _ _ ka ?_
                    rw [hw] at h
                    cases ha : withinD n a with
                    | true =>
                      rw [ha] at h
                      simp
                      refine go _ _ _ kb (by simpa using h)
                    | false =>
                      rw [ha] at h
                      simpa using h
                  · rw [if_neg (by omega), if_neg (fun z => hw (ew.mpr z))]
                    rw [Bool.eq_false_iff.mpr hw] at h
                    simpa using h
                | _ => first | (have h : Q (.bl false) := h; simp [t_is_within]; first | exact h | (rw [if_neg (by omega)]; exact h)) | (exact absurd kw (by simp))
            | _ :: _ :: _ :: _ :: r, _, h =>
              have e : Q (.bl false) := by
                split at h
                · rename_i e; simp at e
                · exact h
              simp [t_is_within]
              rw [if_neg (by omega)]
              exact e
          · simp [t_is_within, hm, hm2]
            simpa [hm, hm2] using h
      | _ => first | (simpa [t_is_within] using h) | (exact absurd kx (by simp))
  | _ => first | (simpa [t_is_within] using h) | (exact absurd hk (by simp))
end AU

/-! AuP2: plain laws: texts of programs, and back. -/
namespace AU
open PySem L2 PySem.Spec PyProof.Rows
/-! ### programs -/
def Pg.ok : Nat → Pg → Bool
  | _, .mark w => wordB w
  | 0, .draw _ _ _ => false
  | n + 1, .draw w a b => wayB w && (a.ok n && b.ok n)
/-- all its texts fit -/
def Pg.fit : Pg → Prop
  | .mark w => w.length ≤ 16777216
  | .draw w a b => w.length ≤ 16777216 ∧ a.fit ∧ b.fit
theorem word_len {w : Str} (h : wordB w = true) : w.length ≤ 8 := by
  unfold wordB at h
  simp only [Bool.and_eq_true, decide_eq_true_eq] at h
  exact h.2.1
theorem way_len {w : Str} (h : wayB w = true) : w.length ≤ 5 := by
  unfold wayB at h
  simp only [Bool.or_eq_true, decide_eq_true_eq] at h
  rcases h with h | h | h | h <;> (subst h; decide +kernel)
theorem Pg.ok_fit : ∀ {n : Nat} {p : Pg}, p.ok n = true → p.fit
  | n, .mark w, h => by
    have : wordB w = true := by cases n <;> exact h
    exact Nat.le_trans (word_len this) (by decide)
  | 0, .draw _ _ _, h => by cases h
  | n + 1, .draw w a b, h => by
    have h : (wayB w && (a.ok n && b.ok n)) = true := h
    simp only [Bool.and_eq_true] at h
    exact ⟨Nat.le_trans (way_len h.1) (by decide), Pg.ok_fit h.2.1, Pg.ok_fit h.2.2⟩
theorem Pg.kn1 {p : Pg} : AU.kn1 p.d := by
  cases p <;> exact ⟨rfl, fun _ e => by cases e⟩
theorem kn_str {w : Str} (h : w.length ≤ 16777216) : ∀ n, Kn n (.str w)
  | 0 => ⟨rfl, fun _ e => by cases e; exact h⟩
  | n + 1 => ⟨⟨rfl, fun _ e => by cases e; exact h⟩, fun _ e => by cases e⟩
theorem lit_len : ("mark" : Str).length ≤ 16777216 ∧ ("draw" : Str).length ≤ 16777216 := by decide +kernel
theorem Pg.kn : ∀ (n : Nat) {p : Pg}, p.fit → Kn n p.d
  | 0, p, _ => Pg.kn1
  | n + 1, .mark w, h => ⟨Pg.kn1, fun ds e x hx => by
    cases e
    rcases List.mem_cons.mp hx with e | hx
    · subst e; exact kn_str lit_len.1 n
    · rcases List.mem_cons.mp hx with e | hx
      · subst e; exact kn_str h n
      · cases hx⟩
  | n + 1, .draw w a b, h => ⟨Pg.kn1, fun ds e x hx => by
    cases e
    rcases List.mem_cons.mp hx with e | hx
    · subst e; exact kn_str lit_len.2 n
    · rcases List.mem_cons.mp hx with e | hx
      · subst e; exact kn_str h.1 n
      · rcases List.mem_cons.mp hx with e | hx
        · subst e; exact Pg.kn n h.2.1
        · rcases List.mem_cons.mp hx with e | hx
          · subst e; exact Pg.kn n h.2.2
          · cases hx⟩
theorem Pg.within : ∀ (n : Nat) (p : Pg), withinD n p.d = p.ok n
  | n, .mark w => by unfold withinD; cases n <;> simp [Pg.d, Pg.ok, isWordD]
  | 0, .draw w a b => by unfold withinD; simp [Pg.d, Pg.ok]
  | n + 1, .draw w a b => by
    unfold withinD
    simp [Pg.d, Pg.ok, Pg.within n a, Pg.within n b]
def S_is_program : Spec := fun ds P _ => ∃ d, ds = [d] ∧ Kn 7 d ∧ P (.bl (withinD 6 d))
theorem p_is_program : ∀ ds Q Ex, S_is_program ds Q Ex → t_is_program (S_is_within 6) (startD 1 ds) (endsOf Q Ex) := by
  rintro _ Q Ex ⟨d, rfl, hk, h⟩
  simp [t_is_program]
  exact ⟨d, 6, rfl, Nat.le_refl _, hk, h⟩
def S_check_program : Spec := fun ds P Ex => ∃ d, ds = [d] ∧ Kn 7 d ∧ if withinD 6 d = true then P .non else Ex "BadProgram"
theorem p_check_program : ∀ ds Q Ex, S_check_program ds Q Ex → t_check_program S_is_program (startD 1 ds) (endsOf Q Ex) := by
  rintro _ Q Ex ⟨d, rfl, hk, h⟩
  simp [t_check_program]
  refine ⟨d, rfl, hk, ?_⟩
  cases hb : withinD 6 d with
  | true => rw [hb] at h; simpa using h
  | false => rw [hb] at h; simpa using h

/-! ### texts -/
def Pg.text : Pg → Str
  | .mark w => w
  | .draw w a b => ((((w ++ ("(" : Str)) ++ a.text) ++ (", " : Str)) ++ b.text) ++ (")" : Str)
theorem len_app (a b : Str) : (a ++ b).length = a.length + b.length := by
  show (a.cps ++ b.cps).size = _
  rw [Array.size_append]; rfl
theorem empty_app (a : Str) : Str.empty ++ a = a := by
  show (⟨#[] ++ a.cps⟩ : Str) = a
  rw [Array.empty_append]
theorem len_p : ("(" : Str).length = 1 ∧ (", " : Str).length = 2 ∧ (")" : Str).length = 1 := by decide +kernel
theorem Pg.text_len : ∀ {n : Nat} {p : Pg}, p.ok n = true → p.text.length + 9 ≤ 17 * 2 ^ n
  | n, .mark w, h => by
    have h : wordB w = true := by cases n <;> exact h
    have := word_len h
    have : 1 ≤ 2 ^ n := Nat.one_le_two_pow
    show w.length + 9 ≤ _
    omega
  | 0, .draw _ _ _, h => by cases h
  | n + 1, .draw w a b, h => by
    have h : (wayB w && (a.ok n && b.ok n)) = true := h
    simp only [Bool.and_eq_true] at h
    have h1 := way_len h.1
    have h2 := Pg.text_len h.2.1
    have h3 := Pg.text_len h.2.2
    obtain ⟨l1, l2, l3⟩ := len_p
    simp only [Pg.text, len_app, l1, l2, l3, Nat.pow_succ]
    omega
theorem Pg.text_small {n : Nat} {p : Pg} (h : p.ok n = true) (hn : n ≤ 6) : p.text.length ≤ 1079 := by
  have h1 := Pg.text_len h
  have : 2 ^ n ≤ 2 ^ 6 := Nat.pow_le_pow_right (by decide) hn
  omega
def S_text_of (N : Nat) : Spec := fun ds P _ => ∃ (p : Pg) (n : Nat), ds = [p.d] ∧ n ≤ N ∧ N ≤ 6 ∧ p.ok n = true ∧ P (.str p.text)
theorem Pg.ok_draw {n : Nat} {w : Str} {a b : Pg} (h : Pg.ok n (.draw w a b) = true) : ∃ m, n = m + 1 ∧ wayB w = true ∧ a.ok m = true ∧ b.ok m = true := by
  cases n with
  | zero => cases h
  | succ m =>
    have h : (wayB w && (a.ok m && b.ok m)) = true := h
    simp only [Bool.and_eq_true] at h
    exact ⟨m, rfl, h.1, h.2.1, h.2.2⟩
theorem Pg.ok_mark {n : Nat} {w : Str} (h : Pg.ok n (.mark w) = true) : wordB w = true := by cases n <;> exact h
theorem p_text_of (N : Nat) (SR : Spec) (hr : ∀ ds P Ex, N ≠ 0 → S_text_of (N - 1) ds P Ex → SR ds P Ex) : ∀ ds Q Ex, S_text_of N ds Q Ex → t_text_of SR (startD 1 ds) (endsOf Q Ex) := by
  rintro _ Q Ex ⟨p, n, rfl, hn, hN, hp, h⟩
  cases p with
  | mark w => simpa [t_text_of, Pg.d, Pg.text] using h
  | draw w a b =>
    obtain ⟨m, rfl, hw, ha, hb⟩ := Pg.ok_draw hp
    have l0 := way_len hw
    have l1 := Pg.text_small ha (by omega)
    have l2 := Pg.text_small hb (by omega)
    obtain ⟨q1, q2, q3⟩ := len_p
    simp [t_text_of, Pg.d]
    refine ⟨by omega, by simp only [len_app]; show 0 + w.length ≤ _; omega, by simp only [len_app]; show 0 + w.length + _ ≤ _; omega, ?_⟩
    refine hr _ _ _ (by omega) ⟨a, m, rfl, by omega, by omega, ha, ?_⟩
    simp
    refine ⟨by omega, by simp only [len_app]; show 0 + w.length + _ + _ ≤ _; omega, by simp only [len_app]; show 0 + w.length + _ + _ + _ ≤ _; omega, ?_⟩
    refine hr _ _ _ (by omega) ⟨b, m, rfl, by omega, by omega, hb, ?_⟩
    simp
    refine ⟨by omega, by simp only [len_app]; show 0 + w.length + _ + _ + _ + _ ≤ _; omega, by simp only [len_app]; show 0 + w.length + _ + _ + _ + _ + _ ≤ _; omega, ?_⟩
    rw [empty_app]
    exact h
def S_write : Spec := fun ds P _ => ∃ (p : Pg), ds = [p.d] ∧ p.ok 6 = true ∧ P (.str p.text)
theorem p_write : ∀ ds Q Ex, S_write ds Q Ex → t_write S_check_program (S_text_of 6) (startD 1 ds) (endsOf Q Ex) := by
  rintro _ Q Ex ⟨p, rfl, hp, h⟩
  simp [t_write]
  refine ⟨p.d, rfl, Pg.kn 7 (Pg.ok_fit hp), ?_⟩
  rw [Pg.within, if_pos hp]
  exact ⟨p, 6, rfl, Nat.le_refl _, Nat.le_refl _, hp, h⟩

/-! ### the reader -/
def wd (L : List Nat) (a : Nat) : List Nat := (L.drop a).takeWhile smallB
theorem tw_lt {p : Nat → Bool} : ∀ {l : List Nat} {j : Nat}, j < (l.takeWhile p).length → ∃ c, l[j]? = some c ∧ p c = true
  | [], j, h => by simp at h
  | x :: l, j, h => by
    rw [List.takeWhile_cons] at h
    split at h
    · rename_i hx
      cases j with
      | zero => exact ⟨x, rfl, hx⟩
      | succ j =>
        obtain ⟨c, h1, h2⟩ := tw_lt (p := p) (l := l) (j := j) (by simpa using h)
        exact ⟨c, by simpa using h1, h2⟩
    · simp at h
theorem tw_at {p : Nat → Bool} : ∀ {l : List Nat} {c : Nat}, l[(l.takeWhile p).length]? = some c → p c = false
  | [], c, h => by simp at h
  | x :: l, c, h => by
    rw [List.takeWhile_cons] at h
    split at h
    · exact tw_at (l := l) (by simpa using h)
    · rename_i hx
      simp at h
      subst h
      simpa using hx
theorem tw_take {p : Nat → Bool} : ∀ (l : List Nat), l.take (l.takeWhile p).length = l.takeWhile p
  | [] => rfl
  | x :: l => by
    rw [List.takeWhile_cons]
    split
    · rw [List.length_cons, List.take_succ_cons, tw_take l]
    · rfl
theorem tw_le {p : Nat → Bool} (l : List Nat) : (l.takeWhile p).length ≤ l.length := by
  have := congrArg List.length (tw_take (p := p) l)
  rw [List.length_take] at this
  omega
abbrev cs (T : Str) : List Nat := T.cps.toList
theorem cs_len (T : Str) : (cs T).length = T.length := by simp [Str.length]
theorem wd_le {L : List Nat} {a : Nat} (h : a ≤ L.length) : a + (wd L a).length ≤ L.length := by
  have := tw_le (p := smallB) (L.drop a)
  rw [List.length_drop] at this
  unfold wd
  omega
theorem wd_lt {L : List Nat} {a e : Nat} (h1 : a ≤ e) (h2 : e < a + (wd L a).length) : ∃ c, L[e]? = some c ∧ smallB c = true := by
  obtain ⟨c, q1, q2⟩ := tw_lt (p := smallB) (l := L.drop a) (j := e - a) (by unfold wd at h2; omega)
  rw [List.getElem?_drop, show a + (e - a) = e by omega] at q1
  exact ⟨c, q1, q2⟩
theorem wd_at {L : List Nat} {a c : Nat} (h : L[a + (wd L a).length]? = some c) : smallB c = false := by
  apply tw_at (l := L.drop a)
  rw [List.getElem?_drop]
  exact h
theorem cut_at {T : Str} {a k : Nat} (h : a ≤ T.length) : cutS T (some (a : Int)) (some ((a : Int) + (k : Int))) = ⟨(((cs T).drop a).take k).toArray⟩ := by
  unfold cutS
  rw [show ((a : Int) + (k : Int)) = ((a + k : Nat) : Int) by omega, HT.sIx_nat, HT.sIx_nat]
  have e1 : min a T.length = a := by omega
  rw [e1]
  have e2 : List.take (min (a + k) T.length - a) ((cs T).drop a) = List.take k ((cs T).drop a) := by
    by_cases hk : a + k ≤ T.length
    · rw [show min (a + k) T.length - a = k by omega]
    · rw [List.take_of_length_le (by rw [List.length_drop, cs_len]; omega), List.take_of_length_le (by rw [List.length_drop, cs_len]; omega)]
  rw [← e2]
theorem atI_c {l : List Nat} {i c : Nat} (h : l[i]? = some c) : atI l (i : Int) = some c := by
  have hi := (List.getElem?_eq_some_iff.mp h).1
  unfold atI ixN
  rw [if_pos (by omega), if_pos (by omega)]
  exact h
def S_word_at : Spec := fun ds P _ => ∃ (T : Str) (a : Nat), ds = [.str T, .int a] ∧ T.length ≤ 16777216 ∧ a ≤ T.length ∧ P (.tup [.str ⟨(wd (cs T) a).toArray⟩, .int ((a + (wd (cs T) a).length : Nat) : Int)])
theorem word_loop {T : Str} {a : Nat} {k : EndsD} (hT : T.length ≤ 16777216) : ∀ (m e : Nat), a ≤ e → e + m = a + (wd (cs T) a).length → a ≤ T.length →
    k.nx [.fz (.str T), .fz (.int a), .fz (.int ((a + (wd (cs T) a).length : Nat) : Int))] →
    whileN (dAnd (dTest (dOp fLt (dVar 2) (dB (on1 fLen) (dCons (dVar 0) (dNil))))) (dTest (dOp fIn (dOp fIx (dVar 0) (dVar 2)) (dC (.str "abcdefghijklmnopqrstuvwxyz"))))) (dAug 2 (dC (.int 1)) (fun a b => a + b)) (m + 1) [.fz (.str T), .fz (.int a), .fz (.int e)] k
  | 0, e, h1, h2, h3, h => by
    unfold whileN
    simp [hT]
    have he : e = a + (wd (cs T) a).length := by omega
    have h : k.nx [.fz (.str T), .fz (.int a), .fz (.int e)] := by rw [he]; exact h
    split
    · rename_i hlt
      have hlt' : e < (cs T).length := by rw [cs_len]; omega
      obtain ⟨c, hc⟩ : ∃ c, (cs T)[e]? = some c := ⟨_, List.getElem?_eq_getElem hlt'⟩
      refine ⟨_, atI_c hc, ?_⟩
      have hs := wd_at (L := cs T) (a := a) (by rw [← he]; exact hc)
      simp [sign?]
      have hs : ¬ c ∈ (("abcdefghijklmnopqrstuvwxyz" : Str).cps : Array Nat) := by simpa [smallB] using hs
      rw [if_neg hs]
      exact h
    · exact h
  | m + 1, e, h1, h2, h3, h => by
    unfold whileN
    simp [hT]
    have hle := wd_le (L := cs T) (a := a) (by rw [cs_len]; exact h3)
    rw [cs_len] at hle
    rw [if_pos (by omega)]
    obtain ⟨c, hc, hs⟩ := wd_lt (L := cs T) (a := a) (e := e) h1 (by omega)
    refine ⟨c, atI_c hc, ?_⟩
    simp [sign?]
    have hs : c ∈ (("abcdefghijklmnopqrstuvwxyz" : Str).cps : Array Nat) := by simpa [smallB] using hs
    rw [if_pos hs]
    exact word_loop hT m (e + 1) (by omega) (by omega) h3 h
theorem p_word_at : ∀ ds Q Ex, S_word_at ds Q Ex → t_word_at (startD 3 ds) (endsOf Q Ex) := by
  rintro _ Q Ex ⟨T, a, rfl, hT, ha, h⟩
  simp [t_word_at]
  refine ⟨(wd (cs T) a).length + 1, word_loop hT _ a (Nat.le_refl _) rfl ha ?_⟩
  simp [hT]
  have e := cut_at (T := T) (a := a) (k := (wd (cs T) a).length) ha
  rw [show ((a : Int) + ((wd (cs T) a).length : Int)) = ((a + (wd (cs T) a).length : Nat) : Int) by omega] at e
  have e2 : ((cs T).drop a).take (wd (cs T) a).length = wd (cs T) a := tw_take _
  rw [e2] at e
  simp only [Int.natCast_add] at e h ⊢
  rw [e]
  exact h
end AU

/-! AuP3: plain laws: the reader of a program. -/
namespace AU
open PySem L2 PySem.Spec PyProof.Rows
def parse (L : List Nat) : Nat → Nat → Option Pg × Nat
  | 0, a => if L[a + (wd L a).length]? = some 40 then (none, a + (wd L a).length) else (some (.mark ⟨(wd L a).toArray⟩), a + (wd L a).length)
  | n + 1, a => if L[a + (wd L a).length]? = some 40 then (if wayB ⟨(wd L a).toArray⟩ = true then
      (match parse L n (a + (wd L a).length + 1) with
      | (none, c) => (none, c)
      | (some r, c) => if (L.drop c).take 2 = [44, 32] then (match parse L n (c + 2) with
        | (none, d) => (none, d)
        | (some s, d) => if L[d]? = some 41 then (some (.draw ⟨(wd L a).toArray⟩ r s), d + 1) else (none, d)) else (none, c)) else (none, a + (wd L a).length))
    else (some (.mark ⟨(wd L a).toArray⟩), a + (wd L a).length)
theorem take2_le {L : List Nat} {c : Nat} (h : (L.drop c).take 2 = [44, 32]) : c + 2 ≤ L.length := by
  have := congrArg List.length h
  rw [List.length_take, List.length_drop] at this
  simp at this
  omega
theorem some_lt {L : List Nat} {c x : Nat} (h : L[c]? = some x) : c < L.length := (List.getElem?_eq_some_iff.mp h).1
theorem parse_le (L : List Nat) : ∀ (n a : Nat), a ≤ L.length → (parse L n a).2 ≤ L.length
  | 0, a, h => by
    unfold parse
    split <;> exact wd_le h
  | n + 1, a, h => by
    unfold parse
    split
    · rename_i h1
      have h1 := some_lt h1
      split
      · have h2 := parse_le L n (a + (wd L a).length + 1) (by omega)
        split
        · rename_i e; rw [e] at h2; exact h2
        · rename_i e; rw [e] at h2
          split
          · rename_i h3
            have h4 := parse_le L n _ (take2_le h3)
            split
            · rename_i e; rw [e] at h4; exact h4
            · rename_i e; rw [e] at h4
              split
              · rename_i h5; exact some_lt h5
              · exact h4
          · exact h2
      · exact wd_le h
    · exact wd_le h
def optD : Option Pg → D
  | none => .non
  | some p => p.d
def S_program_at (N : Nat) : Spec := fun ds P _ => ∃ (T : Str) (a n : Nat), ds = [.str T, .int a, .int n] ∧ n ≤ N ∧ T.length ≤ 16777216 ∧ a ≤ T.length ∧ P (.tup [optD (parse (cs T) n a).1, .int ((parse (cs T) n a).2 : Nat)])
theorem lit_p : ("(" : Str) = ⟨#[40]⟩ ∧ (", " : Str) = ⟨#[44, 32]⟩ ∧ (")" : Str) = ⟨#[41]⟩ := by decide +kernel
theorem take1 {L : List Nat} {a x : Nat} : (L.drop a).take 1 = [x] ↔ L[a]? = some x := by
  have e : L[a]? = (L.drop a)[0]? := by rw [List.getElem?_drop]; rfl
  rw [e]
  cases L.drop a with
  | nil => simp
  | cons y r => simp
theorem str_eq {a b : List Nat} : ((⟨a.toArray⟩ : Str) = ⟨b.toArray⟩) ↔ a = b := by
  constructor
  · intro h
    have := congrArg (fun z : Str => z.cps.toList) h
    simpa using this
  · rintro rfl; rfl
theorem cut1 {T : Str} {a x : Nat} (h : a ≤ T.length) : (cutS T (some (a : Int)) (some ((a : Int) + 1)) = (⟨#[x]⟩ : Str)) ↔ (cs T)[a]? = some x := by
  have e := cut_at (T := T) (a := a) (k := 1) h
  rw [show (((1 : Nat) : Int)) = 1 from rfl] at e
  rw [e, ← take1]
  exact str_eq (b := [x])
theorem cut2 {T : Str} {a x y : Nat} (h : a ≤ T.length) : (cutS T (some (a : Int)) (some ((a : Int) + 2)) = (⟨#[x, y]⟩ : Str)) ↔ ((cs T).drop a).take 2 = [x, y] := by
  have e := cut_at (T := T) (a := a) (k := 2) h
  rw [show (((2 : Nat) : Int)) = 2 from rfl] at e
  rw [e]
  exact str_eq (b := [x, y])
theorem way_in {w : Str} : inL (.str w) [.str "back", .str "aside", .str "more", .str "other"] = wayB w := by
  rw [Bool.eq_iff_iff]
  simp [wayB, inL, deq, @eq_comm Str w]
theorem optD_non {o : Option Pg} : isNon (optD o) = o.isNone := by
  cases o with
  | none => rfl
  | some p => cases p <;> rfl
theorem p_program_at (N : Nat) (SR : Spec) (hr : ∀ ds P Ex, N ≠ 0 → S_program_at (N - 1) ds P Ex → SR ds P Ex) : ∀ ds Q Ex, S_program_at N ds Q Ex → t_program_at S_word_at SR (startD 6 ds) (endsOf Q Ex) := by
  rintro _ Q Ex ⟨T, a, n, rfl, hn, hT, ha, h⟩
  obtain ⟨q1, q2, q3⟩ := lit_p
  have hw := wd_le (L := cs T) (a := a) (by rw [cs_len]; exact ha)
  rw [cs_len] at hw
  simp [t_program_at]
  refine ⟨T, a, rfl, hT, ha, ?_⟩
  simp [hT]
  have hpl := parse_le (cs T) n a (by rw [cs_len]; exact ha)
  rw [show ((a : Int) + ((wd (cs T) a).length : Int)) = ((a + (wd (cs T) a).length : Nat) : Int) by omega]
  have c40 := cut1 (T := T) (a := a + (wd (cs T) a).length) (x := 40) hw
  rw [← q1] at c40
  by_cases h40 : (cs T)[a + (wd (cs T) a).length]? = some 40
  · have hlt := some_lt h40
    rw [cs_len] at hlt
    rw [if_pos (c40.mpr h40), way_in]
    cases n with
    | zero =>
      unfold parse at h
      rw [if_pos h40] at h
      split
      · rw [if_pos rfl]; exact h
      · exact h
    | succ n =>
      unfold parse at h
      rw [if_pos h40] at h
      by_cases hwy : wayB ⟨(wd (cs T) a).toArray⟩ = true
      · rw [if_pos hwy] at h ⊢
        rw [if_neg (by omega)]
        have h2 := parse_le (cs T) n (a + (wd (cs T) a).length + 1) (by rw [cs_len]; omega)
        rw [cs_len] at h2
        refine hr _ _ _ (by omega) ⟨T, a + (wd (cs T) a).length + 1, n, by simp, by omega, hT, by omega, ?_⟩
        generalize parse (cs T) n (a + (wd (cs T) a).length + 1) = r1 at h h2
        obtain ⟨o1, c⟩ := r1
        cases o1 with
        | none => simpa [optD] using h
        | some r =>
          have hr0 := optD_non (o := some r)
          simp only [optD] at hr0
          have c2 := cut2 (T := T) (a := c) (x := 44) (y := 32) h2
          rw [← q2] at c2
          simp [optD]
          simp at hr0
          rw [hr0]
          by_cases h44 : ((cs T).drop c).take 2 = [44, 32]
          · rw [if_pos (c2.mpr h44)]
            simp only [h44, if_true] at h
            have h3 := take2_le h44
            rw [cs_len] at h3
            have h4 := parse_le (cs T) n (c + 2) (by rw [cs_len]; omega)
            rw [cs_len] at h4
            simp
            refine hr _ _ _ (by omega) ⟨T, c + 2, n, by simp, by omega, hT, by omega, ?_⟩
            generalize parse (cs T) n (c + 2) = r2 at h h4
            obtain ⟨o2, d⟩ := r2
            cases o2 with
            | none => simpa [optD] using h
            | some s =>
              have hs0 := optD_non (o := some s)
              simp only [optD] at hs0
              have c3 := cut1 (T := T) (a := d) (x := 41) h4
              rw [← q3] at c3
              simp at hs0
              simp [optD, hs0]
              by_cases h41 : (cs T)[d]? = some 41
              · rw [if_pos (c3.mpr h41)]
                simp only [h41, if_true] at h
                simpa [optD, Pg.d] using h
              · rw [if_neg (fun z => h41 (c3.mp z))]
                simp only [h41, if_false] at h
                simpa [optD] using h
          · rw [if_neg (fun z => h44 (c2.mp z))]
            simp only [h44, if_false] at h
            simpa [optD] using h
      · rw [if_neg hwy] at h ⊢
        exact h
  · rw [if_neg (fun z => h40 (c40.mp z))]
    have e : parse (cs T) n a = (some (.mark ⟨(wd (cs T) a).toArray⟩), a + (wd (cs T) a).length) := by
      cases n <;> · unfold parse; rw [if_neg h40]
    rw [e] at h
    exact h
def readF (T : Str) : Option Pg := match parse (cs T) 6 0 with
  | (some p, c) => if c < T.length then none else if p.ok 6 = true then some p else none
  | (none, _) => none
def S_read : Spec := fun ds P Ex => ∃ T, ds = [.str T] ∧ T.length ≤ 16777216 ∧ match readF T with
  | some p => P p.d
  | none => Ex "BadText"
theorem parse_fit (L : List Nat) (hL : L.length ≤ 16777216) : ∀ (n a : Nat) (p : Pg) (c : Nat), a ≤ L.length → parse L n a = (some p, c) → p.fit
  | 0, a, p, c, ha, h => by
    unfold parse at h
    split at h
    · cases h
    · cases h
      have := wd_le ha
      show (wd L a).toArray.size ≤ _
      simp
      omega
  | n + 1, a, p, c, ha, h => by
    have hwl : (⟨(wd L a).toArray⟩ : Str).length ≤ 16777216 := by
      have := wd_le ha
      show (wd L a).toArray.size ≤ _
      simp
      omega
    unfold parse at h
    split at h
    · rename_i h1
      have h1 := some_lt h1
      split at h
      · have h2 := parse_le L n (a + (wd L a).length + 1) (by omega)
        split at h
        · cases h
        · rename_i e
          split at h
          · rename_i h3
            have h4 := take2_le h3
            split at h
            · cases h
            · rename_i e2
              split at h
              · cases h
                exact ⟨hwl, parse_fit L hL n _ _ _ (by omega) e, parse_fit L hL n _ _ _ h4 e2⟩
              · cases h
          · cases h
      · cases h
    · cases h
      exact hwl
theorem p_read : ∀ ds Q Ex, S_read ds Q Ex → t_read (S_program_at 6) S_is_program (startD 3 ds) (endsOf Q Ex) := by
  rintro _ Q Ex ⟨T, rfl, hT, h⟩
  simp [t_read]
  refine ⟨T, 0, 6, rfl, Nat.le_refl _, hT, Nat.zero_le _, ?_⟩
  unfold readF at h
  have hf := parse_fit (cs T) (by rw [cs_len]; exact hT) 6 0
  generalize parse (cs T) 6 0 = r at h hf
  obtain ⟨o, c⟩ := r
  cases o with
  | none => simpa [optD] using h
  | some p =>
    have h0 := optD_non (o := some p)
    simp only [optD] at h0
    simp at h0
    simp [optD, h0, hT]
    simp only at h
    by_cases hc : c < T.length
    · rw [if_pos hc] at h ⊢
      exact h
    · rw [if_neg hc] at h ⊢
      refine ⟨p.d, rfl, Pg.kn 7 (hf p c (Nat.zero_le _) rfl), ?_⟩
      rw [Pg.within]
      by_cases hp : p.ok 6 = true
      · rw [if_pos hp] at h
        simpa [hp] using h
      · rw [if_neg hp] at h
        simpa [hp] using h
end AU

/-! AuP4: the text of a program reads to it; the law's own defs. -/
namespace AU
open PySem L2 PySem.Spec PyProof.Rows
theorem cs_app (a b : Str) : cs (a ++ b) = cs a ++ cs b := by
  show (a.cps ++ b.cps).toList = _
  rw [Array.toList_append]
theorem cs_lit : cs ("(" : Str) = [40] ∧ cs (", " : Str) = [44, 32] ∧ cs (")" : Str) = [41] := by decide +kernel
theorem small_lit : smallB 40 = false ∧ smallB 41 = false ∧ smallB 44 = false := by decide +kernel
theorem word_small {w : Str} (h : wordB w = true) : ∀ c ∈ cs w, smallB c = true := by
  unfold wordB at h
  simp only [Bool.and_eq_true, List.all_eq_true] at h
  exact h.2.2
theorem way_small {w : Str} (h : wayB w = true) : ∀ c ∈ cs w, smallB c = true := by
  unfold wayB at h
  simp only [Bool.or_eq_true, decide_eq_true_eq] at h
  rcases h with h | h | h | h <;> (subst h; decide +kernel)
theorem tw_app {p : Nat → Bool} : ∀ {l r : List Nat}, (∀ c ∈ l, p c = true) → (∀ c, r.head? = some c → p c = false) → (l ++ r).takeWhile p = l
  | [], [], _, _ => rfl
  | [], x :: r, _, h => by
    rw [List.nil_append, List.takeWhile_cons, h x rfl]
    rfl
  | x :: l, r, h, h2 => by
    rw [List.cons_append, List.takeWhile_cons, h x List.mem_cons_self, if_pos rfl, tw_app (fun c hc => h c (List.mem_cons_of_mem _ hc)) h2]
theorem wd_app {pre l r : List Nat} (h : ∀ c ∈ l, smallB c = true) (h2 : ∀ c, r.head? = some c → smallB c = false) : wd (pre ++ (l ++ r)) pre.length = l := by
  unfold wd
  rw [List.drop_left]
  exact tw_app h h2
theorem at_app {pre l r : List Nat} : (pre ++ (l ++ r))[pre.length + l.length]? = r.head? := by
  rw [← List.append_assoc, show pre.length + l.length = (pre ++ l).length by rw [List.length_append], List.getElem?_append_right (Nat.le_refl _), Nat.sub_self]
  cases r <;> rfl
theorem mk_cs (w : Str) : (⟨(cs w).toArray⟩ : Str) = w := by
  obtain ⟨⟨l⟩⟩ := w
  rfl
/-- behind a program's text: no sign of a word, no ( -/
def Stop (r : List Nat) : Prop := ∀ c, r.head? = some c → smallB c = false ∧ c ≠ 40
theorem parse_text : ∀ (n : Nat) (p : Pg) (pre r : List Nat), p.ok n = true → Stop r → parse (pre ++ (cs p.text ++ r)) n pre.length = (some p, pre.length + (cs p.text).length)
  | n, .mark w, pre, r, h, hr => by
    have hw := word_small (Pg.ok_mark h)
    have e1 : wd (pre ++ (cs w ++ r)) pre.length = cs w := wd_app hw fun c hc => (hr c hc).1
    have e2 := at_app (pre := pre) (l := cs w) (r := r)
    have ne : ¬ r.head? = some 40 := fun z => (hr 40 z).2 rfl
    show parse (pre ++ (cs w ++ r)) n pre.length = (some (.mark w), pre.length + (cs w).length)
    cases n <;> · unfold parse; rw [e1, e2, if_neg ne, mk_cs]
  | 0, .draw _ _ _, _, _, h, _ => by cases h
  | n + 1, .draw w a b, pre, r, h, hr => by
    obtain ⟨m, hm, hw, ha, hb⟩ := Pg.ok_draw h
    have hm : m = n := by omega
    subst hm
    obtain ⟨l1, l2, l3⟩ := cs_lit
    obtain ⟨s1, s2, s3⟩ := small_lit
    have et : cs (Pg.text (.draw w a b)) = cs w ++ (40 :: (cs a.text ++ (44 :: 32 :: (cs b.text ++ [41])))) := by
      simp only [Pg.text, cs_app, l1, l2, l3, List.append_assoc, List.cons_append, List.nil_append]
    rw [et]
    have eL : pre ++ ((cs w ++ (40 :: (cs a.text ++ (44 :: 32 :: (cs b.text ++ [41]))))) ++ r) = pre ++ (cs w ++ (40 :: (cs a.text ++ (44 :: 32 :: (cs b.text ++ (41 :: r)))))) := by
      simp only [List.append_assoc, List.cons_append, List.nil_append]
    rw [eL]
    have e1 : wd (pre ++ (cs w ++ (40 :: (cs a.text ++ (44 :: 32 :: (cs b.text ++ (41 :: r))))))) pre.length = cs w := wd_app (way_small hw) fun c hc => by
      cases hc; exact s1
    have e2 := at_app (pre := pre) (l := cs w) (r := 40 :: (cs a.text ++ (44 :: 32 :: (cs b.text ++ (41 :: r)))))
    have ea := parse_text m a (pre ++ cs w ++ [40]) (44 :: 32 :: (cs b.text ++ (41 :: r))) ha (fun c hc => by cases hc; exact ⟨s3, by decide⟩)
    have eb := parse_text m b (pre ++ cs w ++ [40] ++ cs a.text ++ [44, 32]) (41 :: r) hb (fun c hc => by cases hc; exact ⟨s2, by decide⟩)
    simp only [List.append_assoc, List.cons_append, List.nil_append, List.length_append, List.length_cons, List.length_nil] at ea eb
    unfold parse
    rw [e1, e2, List.head?_cons, if_pos rfl, mk_cs, if_pos hw]
    rw [show pre.length + (cs w).length + 1 = pre.length + ((cs w).length + (0 + 1)) by omega, ea]
    dsimp only
    have d2 : ((pre ++ (cs w ++ (40 :: (cs a.text ++ (44 :: 32 :: (cs b.text ++ (41 :: r))))))).drop (pre.length + ((cs w).length + (0 + 1)) + (cs a.text).length)).take 2 = [44, 32] := by
      have : pre ++ (cs w ++ (40 :: (cs a.text ++ (44 :: 32 :: (cs b.text ++ (41 :: r)))))) = (pre ++ cs w ++ [40] ++ cs a.text) ++ (44 :: 32 :: (cs b.text ++ (41 :: r))) := by simp
      rw [this, show pre.length + ((cs w).length + (0 + 1)) + (cs a.text).length = (pre ++ cs w ++ [40] ++ cs a.text).length by simp; omega, List.drop_left]
      rfl
    rw [if_pos d2]
    rw [show pre.length + ((cs w).length + (0 + 1)) + (cs a.text).length + 2 = pre.length + ((cs w).length + ((cs a.text).length + (0 + 1 + 1) + 1)) by omega] 
    rw [eb]
    dsimp only
    have d3 : (pre ++ (cs w ++ (40 :: (cs a.text ++ (44 :: 32 :: (cs b.text ++ (41 :: r)))))))[pre.length + ((cs w).length + ((cs a.text).length + (0 + 1 + 1) + 1)) + (cs b.text).length]? = some 41 := by
      have : pre ++ (cs w ++ (40 :: (cs a.text ++ (44 :: 32 :: (cs b.text ++ (41 :: r)))))) = (pre ++ cs w ++ [40] ++ cs a.text ++ [44, 32] ++ cs b.text) ++ (41 :: r) := by simp
      rw [this, show pre.length + ((cs w).length + ((cs a.text).length + (0 + 1 + 1) + 1)) + (cs b.text).length = (pre ++ cs w ++ [40] ++ cs a.text ++ [44, 32] ++ cs b.text).length by simp; omega, List.getElem?_append_right (Nat.le_refl _), Nat.sub_self]
      rfl
    rw [if_pos d3]
    congr 1
    simp
    omega
theorem read_text {p : Pg} (h : p.ok 6 = true) : readF p.text = some p := by
  have e := parse_text 6 p [] [] h (fun c hc => by cases hc)
  simp only [List.nil_append, List.append_nil, List.length_nil, Nat.zero_add] at e
  unfold readF
  rw [e]
  dsimp only
  rw [cs_len, if_neg (Nat.lt_irrefl _), if_pos h]
end AU

/-! AuP5: the laws' own defs that several share. -/
namespace AU
open PySem L2 PySem.Spec PyProof.Rows
def wayL : List D := [.str "back", .str "aside", .str "more", .str "other"]
def S__law_ways : Spec := fun ds P _ => ds = [] ∧ P (.lst wayL)
theorem p__law_ways : ∀ ds Q Ex, S__law_ways ds Q Ex → t__law_ways (startD 0 ds) (endsOf Q Ex) := by
  rintro _ Q Ex ⟨rfl, h⟩
  simp [t__law_ways]
  exact h
theorem marks_ok : wordB "hit" = true ∧ wordB "miss" = true ∧ wordB "back" = true := by decide +kernel
theorem ways_ok : wayB "back" = true ∧ wayB "aside" = true ∧ wayB "more" = true ∧ wayB "other" = true := by decide +kernel
theorem atI_2 {a b c : D} {r : Int} (h0 : 0 ≤ r) (h3 : r < 3) : (r = 0 ∧ atI [a, b, c] r = some a) ∨ (r = 1 ∧ atI [a, b, c] r = some b) ∨ (r = 2 ∧ atI [a, b, c] r = some c) := by
  have : r = 0 ∨ r = 1 ∨ r = 2 := by omega
  rcases this with rfl | rfl | rfl
  · exact .inl ⟨rfl, atI0⟩
  · exact .inr (.inl ⟨rfl, atI1⟩)
  · exact .inr (.inr ⟨rfl, atI2⟩)
theorem way_at {r : Int} (h0 : 0 ≤ r) (h4 : r < 4) : ∃ w, wayB w = true ∧ atI wayL r = some (.str w) := by
  have : r = 0 ∨ r = 1 ∨ r = 2 ∨ r = 3 := by omega
  obtain ⟨w1, w2, w3, w4⟩ := ways_ok
  rcases this with rfl | rfl | rfl | rfl
  · exact ⟨_, w1, atI0⟩
  · exact ⟨_, w2, atI1⟩
  · exact ⟨_, w3, atI2⟩
  · exact ⟨_, w4, atI3⟩
def S__law_program (N : Nat) : Spec := fun ds P _ => ∃ n : Nat, ds = [.drw, .int n] ∧ n ≤ N ∧ ∀ p : Pg, p.ok n = true → P p.d
theorem p__law_program (N : Nat) (SR : Spec) (hr : ∀ ds P Ex, N ≠ 0 → S__law_program (N - 1) ds P Ex → SR ds P Ex) : ∀ ds Q Ex, S__law_program N ds Q Ex → t__law_program S__law_draw S__law_ways SR (startD 3 ds) (endsOf Q Ex) := by
  rintro _ Q Ex ⟨n, rfl, hn, h⟩
  have hm : ∀ w, wordB w = true → Q (.tup [.str "mark", .str w]) := fun w hw => h (.mark w) (by cases n <;> exact hw)
  have hmark : S__law_draw [.drw, .int 3] (fun d => match d with
      | .int i => ∃ d, atI [D.str "hit", .str "miss", .str "back"] i = some d ∧ Q (.tup [.str "mark", d])
      | _ => False) (fun c => Ex c) := by
    refine ⟨3, rfl, by decide, by decide, fun r h0 h3 => ?_⟩
    obtain ⟨w1, w2, w3⟩ := marks_ok
    rcases atI_2 (a := .str "hit") (b := .str "miss") (c := .str "back") h0 h3 with ⟨rfl, e⟩ | ⟨rfl, e⟩ | ⟨rfl, e⟩
    · exact ⟨_, e, hm _ w1⟩
    · exact ⟨_, e, hm _ w2⟩
    · exact ⟨_, e, hm _ w3⟩
  simp [t__law_program]
  by_cases h0 : n = 0
  · rw [if_pos h0]
    exact hmark
  · rw [if_neg h0]
    refine ⟨5, rfl, by decide, by decide, fun r r0 r5 => ?_⟩
    simp
    split
    · exact hmark
    · refine ⟨rfl, ?_⟩
      simp
      refine ⟨4, rfl, by decide, by decide, fun r r0 r4 => ?_⟩
      obtain ⟨w, hw, ew⟩ := way_at r0 r4
      simp
      refine ⟨_, ew, ?_⟩
      obtain ⟨m, rfl⟩ : ∃ m, n = m + 1 := ⟨n - 1, by omega⟩
      refine hr _ _ _ (by omega) ⟨m, by simp, by omega, fun a ha => ?_⟩
      refine hr _ _ _ (by omega) ⟨m, by simp, by omega, fun b hb => ?_⟩
      exact h (.draw w a b) (by show (wayB w && (a.ok m && b.ok m)) = true; rw [hw, ha, hb]; rfl)
theorem p__law_text (N : Nat) (SR : Spec) (hr : ∀ ds P Ex, N ≠ 0 → S_text_of (N - 1) ds P Ex → SR ds P Ex) : ∀ ds Q Ex, S_text_of N ds Q Ex → t__law_text SR (startD 1 ds) (endsOf Q Ex) := by
  rintro _ Q Ex ⟨p, n, rfl, hn, hN, hp, h⟩
  cases p with
  | mark w => simpa [t__law_text, Pg.d, Pg.text] using h
  | draw w a b =>
    obtain ⟨m, rfl, hw, ha, hb⟩ := Pg.ok_draw hp
    have l0 := way_len hw
    have l1 := Pg.text_small ha (by omega)
    have l2 := Pg.text_small hb (by omega)
    obtain ⟨q1, q2, q3⟩ := len_p
    simp [t__law_text, Pg.d]
    refine ⟨by omega, ?_⟩
    refine hr _ _ _ (by omega) ⟨a, m, rfl, by omega, by omega, ha, ?_⟩
    simp
    refine ⟨by simp only [len_app]; omega, by simp only [len_app]; omega, ?_⟩
    refine hr _ _ _ (by omega) ⟨b, m, rfl, by omega, by omega, hb, ?_⟩
    simp
    exact ⟨by simp only [len_app]; omega, by simp only [len_app]; omega, h⟩
/-- whole numbers, texts, tuples and lists of these, so deep -/
def Pl : Nat → D → Prop
  | _, .int _ => True
  | _, .str _ => True
  | n + 1, .tup ds => ds.length ≤ 16777216 ∧ ∀ d ∈ ds, Pl n d
  | n + 1, .lst ds => ds.length ≤ 16777216 ∧ ∀ d ∈ ds, Pl n d
  | _, _ => False
def S__law_like (N : Nat) : Spec := fun ds P _ => ∃ d, ds = [d, d] ∧ Pl N d ∧ P (.bl true)
theorem like_loop {SR : Spec} {k : EndsD} {x : D} {ds : List D} (hx : x = .tup ds ∨ x = .lst ds) (hs : ∀ d ∈ ds, ∀ (P : D → Prop) (Ex : Str → Prop), P (.bl true) → SR [d, d] P Ex) (hk : ∀ c, k.nx [.fz x, .fz x, c, .un]) :
    ∀ (js : List D) (c : Cell), (∀ j ∈ js, ∃ i : Nat, j = .int i ∧ i < ds.length) →
      forN (dgN 2) (dIfS (dNot (dTru (dCall SR (dCons (dOp fIx (dVar 0) (dVar 2)) (dCons (dOp fIx (dVar 1) (dVar 2)) (dNil)))))) (dRet (dC (.bl false))) (dNext)) js [.fz x, .fz x, c, .un] k
  | [], c, _ => hk c
  | j :: js, c, h => by
    obtain ⟨i, rfl, hi⟩ := h j List.mem_cons_self
    have e : ds[i]? = some ds[i] := List.getElem?_eq_getElem hi
    have ih := like_loop hx hs hk js (.fz (.int i)) fun j hj => h j (List.mem_cons_of_mem _ hj)
    unfold forN
    have ea : atI ds (i : Int) = some ds[i] := by rw [atI_n hi, e]
    rcases hx with rfl | rfl <;>
    · simp
      refine ⟨_, ea, _, ea, hs _ (List.getElem_mem hi) _ _ ?_⟩
      simp
      exact ih
theorem p__law_like (N : Nat) (SR : Spec) (hr : ∀ ds P Ex, N ≠ 0 → S__law_like (N - 1) ds P Ex → SR ds P Ex) : ∀ ds Q Ex, S__law_like N ds Q Ex → t__law_like SR (startD 4 ds) (endsOf Q Ex) := by
  rintro _ Q Ex ⟨d, rfl, hd, h⟩
  have go : ∀ (ds : List D), N ≠ 0 → (∀ d ∈ ds, Pl (N - 1) d) → ∀ d ∈ ds, ∀ (P : D → Prop) (Ex : Str → Prop), P (.bl true) → SR [d, d] P Ex := fun ds h0 hp d hm P Ex hP => hr _ _ _ h0 ⟨d, rfl, hp d hm, hP⟩
  have rg : ∀ (n : Nat) (ds : List D), ds.length = n → ∀ j ∈ rangeD 0 n, ∃ i : Nat, j = .int i ∧ i < ds.length := fun n ds hl j hj => by
    obtain ⟨i, hi, rfl⟩ := List.mem_map.mp hj
    exact ⟨i, by simp, by have := List.mem_range.mp hi; omega⟩
  cases d with
  | int i => simpa [t__law_like] using h
  | str x => simpa [t__law_like] using h
  | tup ds =>
    cases N with
    | zero => exact hd.elim
    | succ N =>
      obtain ⟨hl, hp⟩ := hd
      simp [t__law_like]
      refine ⟨by omega, like_loop (.inl rfl) (go ds (by omega) hp) (fun c => ?_) _ _ (rg _ ds rfl)⟩
      simpa using h
  | lst ds =>
    cases N with
    | zero => exact hd.elim
    | succ N =>
      obtain ⟨hl, hp⟩ := hd
      simp [t__law_like]
      refine ⟨by omega, like_loop (.inr rfl) (go ds (by omega) hp) (fun c => ?_) _ _ (rg _ ds rfl)⟩
      simpa using h
  | _ => cases N <;> exact hd.elim
theorem Pg.pl : ∀ {n : Nat} {p : Pg}, p.ok n = true → Pl (n + 1) p.d
  | n, .mark w, _ => ⟨by simp, fun d hd => by
    rcases List.mem_cons.mp hd with e | hd
    · subst e; cases n <;> trivial
    · rcases List.mem_cons.mp hd with e | hd
      · subst e; cases n <;> trivial
      · cases hd⟩
  | 0, .draw _ _ _, h => by cases h
  | n + 1, .draw w a b, h => ⟨by simp, fun d hd => by
    obtain ⟨m, hm, hw, ha, hb⟩ := Pg.ok_draw h
    have hm : m = n := by omega
    subst hm
    rcases List.mem_cons.mp hd with e | hd
    · subst e; trivial
    · rcases List.mem_cons.mp hd with e | hd
      · subst e; trivial
      · rcases List.mem_cons.mp hd with e | hd
        · subst e; exact Pg.pl ha
        · rcases List.mem_cons.mp hd with e | hd
          · subst e; exact Pg.pl hb
          · cases hd⟩
end AU

/-! AuP6: which texts are those of programs: the law's account and the reader's agree. -/
namespace AU
open PySem L2 PySem.Spec PyProof.Rows
/-- L is the text of a program of n draws at most -/
def GG (n : Nat) (L : List Nat) : Prop := ∃ p : Pg, p.ok n = true ∧ cs p.text = L
theorem cs_inj {a b : Str} (h : cs a = cs b) : a = b := by rw [← mk_cs a, ← mk_cs b, h]
theorem GG_str {n : Nat} {T : Str} : GG n (cs T) ↔ ∃ p : Pg, p.ok n = true ∧ p.text = T :=
  ⟨fun ⟨p, a, b⟩ => ⟨p, a, cs_inj b⟩, fun ⟨p, a, b⟩ => ⟨p, a, by rw [b]⟩⟩
/-- the first comma at depth 0 -/
def cutF : List Nat → Int → Option Nat
  | [], _ => none
  | c :: l, d => if c = 40 then (cutF l (d + 1)).map (· + 1) else if c = 41 then (cutF l (d - 1)).map (· + 1) else if c = 44 ∧ d = 0 then some 0 else (cutF l d).map (· + 1)
theorem cutF_small : ∀ {l r : List Nat} {d : Int}, (∀ c ∈ l, smallB c = true) → cutF (l ++ r) d = (cutF r d).map (· + l.length)
  | [], r, d, _ => by simp
  | c :: l, r, d, h => by
    have hc := h c List.mem_cons_self
    obtain ⟨s1, s2, s3⟩ := small_lit
    have n1 : c ≠ 40 := fun e => by rw [e, s1] at hc; cases hc
    have n2 : c ≠ 41 := fun e => by rw [e, s2] at hc; cases hc
    have n3 : c ≠ 44 := fun e => by rw [e, s3] at hc; cases hc
    rw [List.cons_append]
    conv => lhs; unfold cutF
    rw [if_neg n1, if_neg n2, if_neg (fun z => n3 z.1), cutF_small (fun c hc => h c (List.mem_cons_of_mem _ hc))]
    cases cutF r d with
    | none => rfl
    | some x => simp; omega
theorem ok_words : ∀ {n : Nat} {w : Str} {a b : Pg}, Pg.ok n (.draw w a b) = true → cs (Pg.text (.draw w a b)) = cs w ++ (40 :: (cs a.text ++ (44 :: 32 :: (cs b.text ++ [41])))) := by
  intro n w a b _
  obtain ⟨l1, l2, l3⟩ := cs_lit
  simp only [Pg.text, cs_app, l1, l2, l3, List.append_assoc, List.cons_append, List.nil_append]
theorem cutF_text : ∀ (n : Nat) (p : Pg) (r : List Nat) (d : Int), p.ok n = true → 0 ≤ d → cutF (cs p.text ++ r) d = (cutF r d).map (· + (cs p.text).length)
  | n, .mark w, r, d, h, _ => cutF_small (word_small (Pg.ok_mark h))
  | 0, .draw _ _ _, _, _, h, _ => by cases h
  | n + 1, .draw w a b, r, d, h, hd => by
    obtain ⟨m, hm, hw, ha, hb⟩ := Pg.ok_draw h
    have hm : m = n := by omega
    subst hm
    rw [ok_words h]
    have e : (cs w ++ (40 :: (cs a.text ++ (44 :: 32 :: (cs b.text ++ [41]))))) ++ r = cs w ++ (40 :: (cs a.text ++ (44 :: 32 :: (cs b.text ++ (41 :: r))))) := by simp
    rw [e, cutF_small (way_small hw)]
    have e1 : cutF (40 :: (cs a.text ++ (44 :: 32 :: (cs b.text ++ (41 :: r))))) d = (cutF (cs a.text ++ (44 :: 32 :: (cs b.text ++ (41 :: r)))) (d + 1)).map (· + 1) := by
      conv => lhs; unfold cutF
      rw [if_pos rfl]
    have e2 : cutF (44 :: 32 :: (cs b.text ++ (41 :: r))) (d + 1) = (cutF (cs b.text ++ (41 :: r)) (d + 1)).map (· + 2) := by
      conv => lhs; unfold cutF
      rw [if_neg (by decide), if_neg (by decide), if_neg (by omega)]
      conv => lhs; unfold cutF
      rw [if_neg (by decide), if_neg (by decide), if_neg (by omega)]
      cases cutF (cs b.text ++ (41 :: r)) (d + 1) <;> simp
    have e3 : cutF (41 :: r) (d + 1) = (cutF r d).map (· + 1) := by
      conv => lhs; unfold cutF
      rw [if_neg (by decide), if_pos rfl, show d + 1 - 1 = d by omega]
    rw [e1, cutF_text m a _ (d + 1) ha (by omega), e2, cutF_text m b _ (d + 1) hb (by omega), e3]
    cases cutF r d with
    | none => rfl
    | some x => simp; omega
theorem no40 {w : Str} (h : ∀ c ∈ cs w, smallB c = true) : 40 ∉ cs w := fun z => by
  have := h 40 z
  rw [small_lit.1] at this
  cases this
/-- without ( it is a word -/
theorem GG_word {n : Nat} {T : Str} (h : 40 ∉ cs T) : GG n (cs T) ↔ wordB T = true := by
  constructor
  · rintro ⟨p, hp, e⟩
    cases p with
    | mark w =>
      have e' : w = T := cs_inj e
      rw [← e']
      exact Pg.ok_mark hp
    | draw w a b =>
      exfalso
      rw [ok_words hp] at e
      rw [← e] at h
      exact h (by simp)
  · intro h
    exact ⟨.mark T, by cases n <;> exact h, rfl⟩
theorem idx40 {u x v y : List Nat} (hu : 40 ∉ u) (hv : 40 ∉ v) (e : u ++ (40 :: x) = v ++ (40 :: y)) : u = v ∧ x = y := by
  induction u generalizing v with
  | nil =>
    cases v with
    | nil => simpa using e
    | cons c v =>
      simp only [List.nil_append, List.cons_append, List.cons.injEq] at e
      exact absurd (by rw [e.1]; exact List.mem_cons_self) hv
  | cons c u ih =>
    cases v with
    | nil =>
      simp only [List.nil_append, List.cons_append, List.cons.injEq] at e
      exact absurd (by rw [← e.1]; exact List.mem_cons_self) hu
    | cons c' v =>
      simp only [List.cons_append, List.cons.injEq] at e
      obtain ⟨e1, e2⟩ := ih (fun z => hu (List.mem_cons_of_mem _ z)) (fun z => hv (List.mem_cons_of_mem _ z)) e.2
      exact ⟨by rw [e.1, e1], e2⟩
/-- W ( I ) , the first ( behind W -/
theorem GG_draw {n : Nat} {W I : List Nat} (hW : 40 ∉ W) : GG n (W ++ (40 :: (I ++ [41]))) ↔ wayB ⟨W.toArray⟩ = true ∧ ∃ c m, cutF I 0 = some c ∧ n = m + 1 ∧ (I.drop c).take 2 = [44, 32] ∧ GG m (I.take c) ∧ GG m (I.drop (c + 2)) := by
  constructor
  · rintro ⟨p, hp, e⟩
    cases p with
    | mark w =>
      have hw := no40 (word_small (Pg.ok_mark hp))
      have e : cs w = W ++ (40 :: (I ++ [41])) := e
      rw [e] at hw
      exact absurd (by simp) hw
    | draw w a b =>
      obtain ⟨m, hm, hw, ha, hb⟩ := Pg.ok_draw hp
      rw [ok_words hp] at e
      obtain ⟨e1, e2⟩ := idx40 (no40 (way_small hw)) hW e
      have e3 : cs a.text ++ (44 :: 32 :: cs b.text) = I := by
        have : (cs a.text ++ (44 :: 32 :: cs b.text)) ++ [41] = I ++ [41] := by rw [← e2]; simp
        exact List.append_cancel_right this
      have ec : cutF I 0 = some (cs a.text).length := by
        rw [← e3, cutF_text m a _ 0 ha (Int.le_refl 0)]
        conv => lhs; unfold cutF
        rw [if_neg (by decide), if_neg (by decide), if_pos ⟨rfl, rfl⟩]
        simp
      refine ⟨by rw [← e1, mk_cs]; exact hw, _, m, ec, hm, ?_, ?_, ?_⟩
      · rw [← e3, List.drop_left]; rfl
      · rw [← e3, List.take_left]; exact ⟨a, ha, rfl⟩
      · refine ⟨b, hb, ?_⟩
        rw [← e3, ← List.drop_drop, List.drop_left]; rfl
  · rintro ⟨hw, c, m, hc, rfl, h2, ⟨a, ha, ea⟩, ⟨b, hb, eb⟩⟩
    refine ⟨.draw ⟨W.toArray⟩ a b, by show (wayB _ && (a.ok m && b.ok m)) = true; rw [hw, ha, hb]; rfl, ?_⟩
    rw [ok_words (n := m + 1) (by show (wayB _ && (a.ok m && b.ok m)) = true; rw [hw, ha, hb]; rfl), ea, eb]
    have e : I = I.take c ++ (44 :: 32 :: I.drop (c + 2)) := by
      conv => lhs; rw [← List.take_append_drop c I, ← List.take_append_drop 2 (I.drop c), h2, List.drop_drop]
      rfl
    have e2 : I.take c ++ (44 :: 32 :: (I.drop (c + 2) ++ [41])) = I ++ [41] := by
      conv => rhs; rw [e]
      simp
    rw [e2]
/-- whatever has no ) at its end, behind a ( -/
theorem GG_last {n : Nat} {L : List Nat} (h40 : 40 ∈ L) (h : GG n L) : ∃ r, L = r ++ [41] := by
  obtain ⟨p, hp, e⟩ := h
  cases p with
  | mark w =>
    have hw := no40 (word_small (Pg.ok_mark hp))
    have e : cs w = L := e
    rw [e] at hw
    exact absurd h40 hw
  | draw w a b =>
    rw [ok_words hp] at e
    exact ⟨cs w ++ (40 :: (cs a.text ++ (44 :: 32 :: cs b.text))), by rw [← e]; simp⟩

/-! ### the reader takes nothing else -/
theorem parse_sound (L : List Nat) : ∀ (n a : Nat) (p : Pg) (c : Nat), a ≤ L.length → parse L n a = (some p, c) → L.drop a = cs p.text ++ L.drop c
  | 0, a, p, c, ha, h => by
    unfold parse at h
    split at h
    · cases h
    · cases h
      rw [← List.drop_drop]
      conv => lhs; rw [← List.take_append_drop (wd L a).length (L.drop a)]
      rw [show (L.drop a).take (wd L a).length = wd L a from tw_take _]
      rfl
  | n + 1, a, p, c, ha, h => by
    have hd : L.drop a = wd L a ++ L.drop (a + (wd L a).length) := by
      rw [← List.drop_drop]
      conv => lhs; rw [← List.take_append_drop (wd L a).length (L.drop a)]
      rw [show (L.drop a).take (wd L a).length = wd L a from tw_take _]
    have at1 : ∀ (i x : Nat), L[i]? = some x → L.drop i = x :: L.drop (i + 1) := fun i x hx => by
      have hi := some_lt hx
      rw [List.drop_eq_getElem_cons hi]
      congr 1
      rw [List.getElem?_eq_getElem hi] at hx
      exact Option.some.inj hx
    unfold parse at h
    split at h
    · rename_i h1
      split at h
      · split at h
        · cases h
        · rename_i e
          have l1 := some_lt h1
          have s1 := parse_sound L n _ _ _ (by omega) e
          have l2 := parse_le L n (a + (wd L a).length + 1) (by omega)
          rw [e] at l2
          split at h
          · rename_i h3
            split at h
            · cases h
            · rename_i e2
              have l3 := take2_le h3
              have s2 := parse_sound L n _ _ _ l3 e2
              split at h
              · rename_i h5
                cases h
                obtain ⟨q1, q2, q3⟩ := cs_lit
                have d2 : ∀ i, (L.drop i).take 2 = [44, 32] → L.drop i = 44 :: 32 :: L.drop (i + 2) := fun i hi => by
                  conv => lhs; rw [← List.take_append_drop 2 (L.drop i), hi, List.drop_drop]
                  rfl
                rw [hd, at1 _ _ h1, s1, d2 _ h3, s2, at1 _ _ h5]
                simp only [Pg.text, cs_app, q1, q2, q3, List.append_assoc, List.cons_append, List.nil_append]
              · cases h
          · cases h
      · cases h
    · cases h
      exact hd
theorem read_iff {T : Str} : (readF T).isSome = true ↔ GG 6 (cs T) := by
  constructor
  · intro h
    unfold readF at h
    have hs := parse_sound (cs T) 6 0
    generalize parse (cs T) 6 0 = r at h hs
    obtain ⟨o, c⟩ := r
    cases o with
    | none => cases h
    | some p =>
      dsimp only at h
      split at h
      · cases h
      · rename_i hc
        split at h
        · rename_i hp
          have := hs p c (Nat.zero_le _) rfl
          rw [List.drop_zero, List.drop_of_length_le (by rw [cs_len]; omega), List.append_nil] at this
          exact ⟨p, hp, this.symm⟩
        · cases h
  · rintro ⟨p, hp, e⟩
    have e' : p.text = T := cs_inj e
    rw [← e', read_text hp]
    rfl
end AU

namespace AU
open PySem L2 PySem.Spec PyProof.Rows
def S__law_bad : Spec := fun ds P _ => ∃ T, ds = [.str T] ∧ T.length ≤ 16777216 ∧ P (.bl (!(readF T).isSome))
theorem p__law_bad {m : Str → Option Bool} (hm : m "BadText" = some true) : ∀ ds Q Ex, S__law_bad ds Q Ex → t__law_bad m S_read (startD 2 ds) (endsOf Q Ex) := by
  rintro _ Q Ex ⟨T, rfl, hT, h⟩
  simp [t__law_bad]
  refine ⟨T, rfl, hT, ?_⟩
  cases hr : readF T with
  | none => rw [hr] at h; simpa [hm] using h
  | some p => rw [hr] at h; simpa using h
def optI : Option Nat → D
  | none => .non
  | some i => .int i
def S__law_cut : Spec := fun ds P _ => ∃ T, ds = [.str T] ∧ T.length ≤ 16777216 ∧ P (optI (cutF (cs T) 0))
theorem one_lit : ("(" : Str) = ⟨#[40]⟩ ∧ ("," : Str) = ⟨#[44]⟩ ∧ (")" : Str) = ⟨#[41]⟩ := by decide +kernel
theorem one_eq {a b : Nat} : ((⟨#[a]⟩ : Str) = ⟨#[b]⟩) ↔ a = b := str_eq (a := [a]) (b := [b]) |>.trans (by simp)
theorem p__law_cut : ∀ ds Q Ex, S__law_cut ds Q Ex → t__law_cut (startD 3 ds) (endsOf Q Ex) := by
  rintro _ Q Ex ⟨T, rfl, hT, h⟩
  obtain ⟨q1, q2, q3⟩ := one_lit
  simp [t__law_cut, hT]
  refine ⟨by omega, ?_⟩
  have key : ∀ (l : List Nat) (i : Nat) (d : Int) (c : Cell), (cs T).drop i = l → Q (optI ((cutF l d).map (· + i))) → ∀ js : List D, js = (List.range' i l.length).map (fun i => D.int (i : Nat)) →
      forN (dgN 2) (dSeq (dIfS (dTest (dOp fEq (dOp fIx (dVar 0) (dVar 2)) (dC (.str "(")))) (dSet 1 (dOp fAdd (dVar 1) (dC (.int 1)))) (dNext)) (dSeq (dIfS (dTest (dOp fEq (dOp fIx (dVar 0) (dVar 2)) (dC (.str ")")))) (dSet 1 (dOp fSub (dVar 1) (dC (.int 1)))) (dNext)) (dIfS (dAnd (dTest (dOp fEq (dOp fIx (dVar 0) (dVar 2)) (dC (.str ",")))) (dTest (dOp fEq (dVar 1) (dC (.int 0))))) (dRet (dVar 2)) (dNext))))
        js [.fz (.str T), .fz (.int d), c] ⟨fun _ => Q .non, Q, fun _ => False, fun _ => False, fun _ c => Ex c⟩ := by
    intro l
    induction l with
    | nil =>
      intro i d c _ hQ js hj
      subst hj
      exact hQ
    | cons x l ih =>
      intro i d c hd hQ js hj
      subst hj
      have hx : (cs T)[i]? = some x := by
        have := congrArg List.head? hd
        rw [List.head?_drop] at this
        exact this
      have hd' : (cs T).drop (i + 1) = l := by
        rw [← List.drop_drop, hd]; rfl
      rw [List.length_cons, List.range'_succ, List.map_cons]
      unfold forN
      have e0 : cutF (x :: l) d = if x = 40 then (cutF l (d + 1)).map (· + 1) else if x = 41 then (cutF l (d - 1)).map (· + 1) else if x = 44 ∧ d = 0 then some 0 else (cutF l d).map (· + 1) := by
        conv => lhs; unfold cutF
      rw [e0] at hQ
      have mm : ∀ o : Option Nat, (o.map (· + 1)).map (· + i) = o.map (· + (i + 1)) := fun o => by cases o <;> simp; omega
      simp [hT]
      refine ⟨x, atI_c hx, ?_⟩
      rw [q1, q2, q3]
      simp only [one_eq]
      by_cases h40 : x = 40
      · rw [if_pos h40] at hQ ⊢
        refine ⟨x, atI_c hx, ?_⟩
        rw [if_neg (by omega)]
        refine ⟨x, atI_c hx, ?_⟩
        rw [if_neg (by omega)]
        exact ih (i + 1) (d + 1) _ hd' (by rw [← mm]; exact hQ) _ rfl
      · rw [if_neg h40] at hQ ⊢
        refine ⟨x, atI_c hx, ?_⟩
        by_cases h41 : x = 41
        · rw [if_pos h41] at hQ ⊢
          refine ⟨x, atI_c hx, ?_⟩
          rw [if_neg (by omega)]
          exact ih (i + 1) (d - 1) _ hd' (by rw [← mm]; exact hQ) _ rfl
        · rw [if_neg h41] at hQ ⊢
          refine ⟨x, atI_c hx, ?_⟩
          by_cases h44 : x = 44
          · rw [if_pos h44]
            by_cases h0 : d = 0
            · rw [if_pos ⟨h44, h0⟩] at hQ
              rw [if_pos h0]
              simpa [optI] using hQ
            · rw [if_neg (fun z => h0 z.2)] at hQ
              rw [if_neg h0]
              exact ih (i + 1) d _ hd' (by rw [← mm]; exact hQ) _ rfl
          · rw [if_neg (fun z => h44 z.1)] at hQ
            rw [if_neg h44]
            exact ih (i + 1) d _ hd' (by rw [← mm]; exact hQ) _ rfl
  refine key (cs T) 0 0 _ (List.drop_zero) (by simpa using h) _ ?_
  unfold rangeD
  rw [cs_len, List.range_eq_range']
  simp
theorem lcN_filter {gt : DG} {tc : DB} {te : DT} {ρ : Rho} (q : D → Bool) (f : D → D) : ∀ (ds acc : List D) (P : List D → Prop), acc.length + ds.length ≤ 16777216 →
    (∀ d ∈ ds, ∀ (R : D → Prop) (S : Prop), (q d = true → R (f d)) → (q d = false → S) → gt d ρ (fun ρ1 => tc ρ1 (fun b => if b = true then te ρ1 R noX else S) noX)) → P (acc ++ (ds.filter q).map f) → lcN gt tc te ρ ds acc P
  | [], acc, P, _, _, h => by
    rw [List.filter_nil, List.map_nil, List.append_nil] at h
    exact h
  | d :: ds, acc, P, hl, hg, h => by
    have hl' : acc.length + (ds.length + 1) ≤ 16777216 := by rw [List.length_cons] at hl; exact hl
    refine hg d List.mem_cons_self (fun y => acc.length < 16777216 ∧ lcN gt tc te ρ ds (acc ++ [y]) P) (lcN gt tc te ρ ds acc P) (fun hq => ⟨by omega, ?_⟩) (fun hq => ?_)
    · exact lcN_filter q f ds (acc ++ [f d]) P (by rw [List.length_append, List.length_singleton]; omega) (fun d' h' => hg d' (List.mem_cons_of_mem _ h')) (by rw [List.filter_cons, if_pos hq] at h; simpa using h)
    · exact lcN_filter q f ds acc P (by omega) (fun d' h' => hg d' (List.mem_cons_of_mem _ h')) (by rw [List.filter_cons, if_neg (by rw [hq]; exact Bool.false_ne_true)] at h; exact h)
def S__law_good (N : Nat) : Spec := fun ds P _ => ∃ (T : Str) (n : Nat), ds = [.str T, .int n] ∧ n ≤ N ∧ T.length ≤ 16777216 ∧ ∀ b : Bool, (b = true ↔ GG n (cs T)) → P (.bl b)
theorem tail41 {W X r : List Nat} (e : W ++ (40 :: X) = r ++ [41]) : ∃ I, X = I ++ [41] := by
  rcases List.eq_nil_or_concat X with rfl | ⟨I, x, rfl⟩
  · have := (List.append_inj' e rfl).2
    simp at this
  · rw [List.concat_eq_append] at e ⊢
    have e2 : (W ++ (40 :: I)) ++ [x] = r ++ [41] := by rw [← e]; simp
    have := (List.append_inj' e2 rfl).2
    exact ⟨I, by rw [this]⟩
theorem ff_iff {G : Prop} (h : G → False) : (false = true) ↔ G := Iff.intro (fun z => absurd z Bool.false_ne_true) (fun z => (h z).elim)
theorem sub40 {T : Str} {i : Nat} : StrLaws.At T (⟨#[40]⟩ : Str) T.length i ↔ (cs T)[i]? = some 40 := by
  unfold StrLaws.At
  have e : PySem.Builtin.Str.subAt T (⟨#[40]⟩ : Str) i = true ↔ ((cs T).drop i).take 1 = [40] := by
    unfold PySem.Builtin.Str.subAt
    rw [beq_iff_eq, ← Array.toList_inj]
    show (T.cps.extract i (i + 1)).toList = [40] ↔ _
    rw [Array.toList_extract, List.extract_eq_take_drop, show i + 1 - i = 1 by omega]
  rw [e, take1]
  constructor
  · exact fun h => h.2
  · intro h
    have := some_lt h
    rw [cs_len] at this
    exact ⟨this, h⟩
theorem find40 (T : Str) : (Txt.find T "(" = -1 ∧ 40 ∉ cs T) ∨ ∃ W X, Txt.find T "(" = (W.length : Int) ∧ cs T = W ++ (40 :: X) ∧ 40 ∉ W := by
  rw [one_lit.1]
  rcases find_whole T (⟨#[40]⟩ : Str) with ⟨h1, h2⟩ | ⟨i, h1, h2, h3⟩
  · refine .inl ⟨h1, fun hm => ?_⟩
    obtain ⟨i, hi, e⟩ := List.mem_iff_getElem.mp hm
    exact h2 i (sub40.mpr (by rw [List.getElem?_eq_getElem hi, e]))
  · have hx := sub40.mp h2
    have hi := some_lt hx
    refine .inr ⟨(cs T).take i, (cs T).drop (i + 1), ?_, ?_, fun hm => ?_⟩
    · rw [h1, List.length_take]; congr 1; omega
    · conv => lhs; rw [← List.take_append_drop i (cs T), List.drop_eq_getElem_cons hi]
      rw [List.getElem?_eq_getElem hi] at hx
      rw [Option.some.inj hx]
    · obtain ⟨j, hj, e⟩ := List.mem_iff_getElem.mp hm
      rw [List.length_take] at hj
      rw [List.getElem_take] at e
      exact h3 j (by omega) (sub40.mpr (by rw [List.getElem?_eq_getElem (by omega), e]))
theorem cut_lo {T : Str} {k : Nat} (h : k ≤ T.length) : cutS T none (some (k : Int)) = ⟨((cs T).take k).toArray⟩ := by
  unfold cutS
  rw [HT.sIx_none, HT.sIx_nat, List.drop_zero, show min k T.length - 0 = k by omega]
theorem cut_hi {T : Str} {k : Nat} (h : k ≤ T.length) : cutS T (some (k : Int)) none = ⟨((cs T).drop k).toArray⟩ := by
  unfold cutS
  rw [HT.sIx_none, HT.sIx_nat, show min k T.length = k by omega, List.take_of_length_le (by rw [List.length_drop, cs_len]; omega)]
theorem cut_last {T : Str} (h : 1 ≤ T.length) : cutS T (some (-1)) none = ⟨((cs T).drop (T.length - 1)).toArray⟩ := by
  unfold cutS
  have e : HT.sIx T.length 0 (some (-1)) = T.length - 1 := by
    show (if (-1 : Int) < 0 then ((-1 : Int) + (T.length : Int)).toNat else min (-1 : Int).toNat T.length) = T.length - 1
    rw [if_pos (by decide)]; omega
  rw [HT.sIx_none, e, List.take_of_length_le (by rw [List.length_drop, cs_len]; omega)]
theorem cut_in {T : Str} {k : Nat} (h : k ≤ T.length) (h1 : 1 ≤ T.length) : cutS T (some (k : Int)) (some (-1)) = ⟨(((cs T).drop k).take (T.length - 1 - k)).toArray⟩ := by
  unfold cutS
  have e : HT.sIx T.length T.length (some (-1)) = T.length - 1 := by
    show (if (-1 : Int) < 0 then ((-1 : Int) + (T.length : Int)).toNat else min (-1 : Int).toNat T.length) = T.length - 1
    rw [if_pos (by decide)]; omega
  rw [e, HT.sIx_nat, show min k T.length = k by omega]
theorem p__law_good (N : Nat) (SR : Spec) (hr : ∀ ds P Ex, N ≠ 0 → S__law_good (N - 1) ds P Ex → SR ds P Ex) : ∀ ds Q Ex, S__law_good N ds Q Ex → t__law_good S__law_cut S__law_ways SR (startD 7 ds) (endsOf Q Ex) := by
  rintro _ Q Ex ⟨T, n, rfl, hn, hT, h⟩
  have hl := cs_len T
  obtain ⟨q1, q2, q3⟩ := lit_p
  simp [t__law_good]
  rcases find40 T with ⟨hf, hno⟩ | ⟨W, X, hf, hL, hW⟩
  · rw [hf, if_pos (by decide)]
    have hg := GG_word (n := n) hno
    have hw : wordB T = (decide (1 ≤ T.length) && (decide (T.length ≤ 8) && (cs T).all smallB)) := rfl
    refine ⟨hT, ?_⟩
    split
    · rename_i h1
      split
      · rename_i h8
        refine lcN_filter (fun d => match d with | .str x => !(x.cps.toList.all smallB) | _ => false) id _ [] _ ?_ ?_ ?_
        · simp only [List.length_nil, List.length_map]; show 0 + (cs T).length ≤ _; omega
        · intro d hd R S h1 h2
          obtain ⟨c, _, rfl⟩ := List.mem_map.mp hd
          simp [sign?]
          by_cases hc : smallB c = true
          · have hm : c ∈ (("abcdefghijklmnopqrstuvwxyz" : Str).cps : Array Nat) := by simpa [smallB] using hc
            rw [if_pos hm]
            exact h2 (by simp [hc])
          · have hm : ¬ c ∈ (("abcdefghijklmnopqrstuvwxyz" : Str).cps : Array Nat) := by simpa [smallB] using hc
            rw [if_neg hm]
            exact h1 (by simpa using hc)
        · simp
          apply h
          rw [hg, hw]
          rw [decide_eq_true (show 1 ≤ T.length by omega), decide_eq_true (show T.length ≤ 8 by omega)]
          simp only [Bool.true_and, List.all_eq_true]
          simp
      · rename_i h8
        apply h
        rw [hg, hw]
        simp
        intro _ h8'
        omega
    · rename_i h1
      apply h
      rw [hg, hw]
      simp
      intro h1'
      omega
  · rw [hf, if_neg (by omega)]
    have hlen : T.length = W.length + 1 + X.length := by
      rw [← hl, hL]; simp; omega
    have eW : cutS T none (some (W.length : Int)) = ⟨W.toArray⟩ := by
      rw [cut_lo (by omega), hL, List.take_left]
    have eI : cutS T (some ((W.length : Int) + 1)) (some (-1)) = ⟨(X.take (X.length - 1)).toArray⟩ := by
      have := cut_in (T := T) (k := W.length + 1) (by omega) (by omega)
      rw [show (((W.length + 1 : Nat) : Int)) = (W.length : Int) + 1 by omega] at this
      rw [this, hL]
      have e1 : (W ++ (40 :: X)).drop (W.length + 1) = X := by rw [← List.drop_drop, List.drop_left]; rfl
      rw [e1, show T.length - 1 - (W.length + 1) = X.length - 1 by omega]
    have eL := cut_last (T := T) (by omega)
    rw [eW, eI]
    refine ⟨hT, ?_⟩
    have hI : (⟨(X.take (X.length - 1)).toArray⟩ : Str).length ≤ 16777216 := by
      show ((X.take (X.length - 1)).toArray).size ≤ _
      rw [List.size_toArray, List.length_take]; omega
    refine ⟨_, rfl, hI, ?_⟩
    refine ⟨hT, rfl, ?_⟩
    have f1 : ∀ x ∈ wayL, flat x = true := by decide
    simp only [wayL]
    refine ⟨trivial, by simpa [wayL] using f1, ?_⟩
    rw [way_in]
    have ec : cs (⟨(X.take (X.length - 1)).toArray⟩ : Str) = X.take (X.length - 1) := rfl
    rw [ec]
    by_cases hX : ∃ I, X = I ++ [41]
    · obtain ⟨I, rfl⟩ := hX
      have eT : (I ++ [41]).take ((I ++ [41]).length - 1) = I := by simp
      rw [eT] at hI ⊢
      have g := GG_draw (n := n) (I := I) hW
      rw [← hL] at g
      have eL2 : cutS T (some (-1)) none = (")" : Str) := by
        rw [eL, q3, hL]
        have : (W ++ (40 :: (I ++ [41]))).drop (T.length - 1) = [41] := by
          have e : W ++ (40 :: (I ++ [41])) = (W ++ (40 :: I)) ++ [41] := by simp
          rw [e, show T.length - 1 = (W ++ (40 :: I)).length by rw [hlen]; simp; omega, List.drop_left]
        rw [this]
      by_cases hw : wayB ⟨W.toArray⟩ = true
      · rw [hw]
        simp
        refine ⟨hT, ?_⟩
        rw [if_pos eL2]
        cases hc : cutF I 0 with
        | none =>
          simp [optI]
          exact h false (ff_iff fun z => by obtain ⟨_, c, m, z, _⟩ := g.mp z; rw [hc] at z; cases z)
        | some c =>
          simp [optI]
          by_cases h0 : n = 0
          · rw [if_pos h0]
            exact h false (ff_iff fun z => by obtain ⟨_, c, m, _, z, _⟩ := g.mp z; omega)
          · rw [if_neg h0]
            obtain ⟨m, rfl⟩ : ∃ m, n = m + 1 := ⟨n - 1, by omega⟩
            refine ⟨hI, ?_⟩
            have hcI : c ≤ I.length := by
              have : ∀ (l : List Nat) (d : Int) (c : Nat), cutF l d = some c → c ≤ l.length := by
                intro l
                induction l with
                | nil => intro d c z; cases z
                | cons x l ih =>
                  intro d c z
                  unfold cutF at z
                  have st : ∀ (e : Int), (cutF l e).map (· + 1) = some c → c ≤ l.length + 1 := fun e z => by
                    cases q : cutF l e with
                    | none => rw [q] at z; cases z
                    | some y => rw [q] at z; have := ih e y q; have e2 : y + 1 = c := Option.some.inj z; omega
                  rw [List.length_cons]
                  split at z
                  · exact st _ z
                  · split at z
                    · exact st _ z
                    · split at z
                      · have e2 : 0 = c := Option.some.inj z; omega
                      · exact st _ z
              exact this I 0 c hc
            have lI : (⟨I.toArray⟩ : Str).length = I.length := by show I.toArray.size = _; simp
            have c2 := cut2 (T := ⟨I.toArray⟩) (a := c) (x := 44) (y := 32) (by omega)
            rw [← q2] at c2
            by_cases h44 : (I.drop c).take 2 = [44, 32]
            · rw [if_pos (c2.mpr h44)]
              refine ⟨hI, ?_⟩
              have l2 := take2_le h44
              have eA : cutS (⟨I.toArray⟩ : Str) none (some (c : Int)) = ⟨(I.take c).toArray⟩ := cut_lo (T := ⟨I.toArray⟩) (by omega)
              have eB : cutS (⟨I.toArray⟩ : Str) (some ((c : Int) + 2)) none = ⟨(I.drop (c + 2)).toArray⟩ := by
                have := cut_hi (T := ⟨I.toArray⟩) (k := c + 2) (by omega)
                rw [show (((c + 2 : Nat) : Int)) = (c : Int) + 2 by omega] at this
                exact this
              rw [eA, eB]
              refine hr _ _ _ (by omega) ⟨_, m, by rw [show ((m + 1 : Nat) : Int) - 1 = (m : Int) by omega], by omega, by show ((I.take c).toArray).size ≤ _; rw [List.size_toArray, List.length_take]; omega, fun b1 hb1 => ?_⟩
              have hb1 : b1 = true ↔ GG m (I.take c) := hb1
              have gm : ∀ c' m', cutF I 0 = some c' → m + 1 = m' + 1 → c' = c ∧ m' = m := fun c' m' z1 z2 => ⟨by rw [hc] at z1; cases z1; rfl, by omega⟩
              cases b1 with
              | true =>
                simp
                refine ⟨hI, ?_⟩
                refine hr _ _ _ (by omega) ⟨_, m, rfl, by omega, by show ((I.drop (c + 2)).toArray).size ≤ _; rw [List.size_toArray, List.length_drop]; omega, fun b2 hb2 => ?_⟩
                have hb2 : b2 = true ↔ GG m (I.drop (c + 2)) := hb2
                refine h b2 ⟨fun z => g.mpr ⟨hw, c, m, hc, rfl, h44, hb1.mp rfl, hb2.mp z⟩, fun z => ?_⟩
                obtain ⟨_, c', m', z1, z2, _, _, z3⟩ := g.mp z
                obtain ⟨rfl, rfl⟩ := gm c' m' z1 z2
                exact hb2.mpr z3
              | false =>
                simp
                refine h false (ff_iff fun z => ?_)
                obtain ⟨_, c', m', z1, z2, _, z3, _⟩ := g.mp z
                obtain ⟨rfl, rfl⟩ := gm c' m' z1 z2
                exact Bool.false_ne_true (hb1.mpr z3)
            · rw [if_neg (fun z => h44 (c2.mp z))]
              refine h false (ff_iff fun z => ?_)
              obtain ⟨_, c', m', z1, _, z3, _⟩ := g.mp z
              rw [hc] at z1; cases z1
              exact h44 z3
      · rw [Bool.eq_false_iff.mpr hw]
        simp
        exact h false (ff_iff fun z => hw (g.mp z).1)
    · have eL2 : ¬ cutS T (some (-1)) none = (")" : Str) := fun z => by
        rw [eL, q3] at z
        have z2 : (cs T).drop (T.length - 1) = [41] := str_eq.mp z
        have z3 : cs T = (cs T).take (T.length - 1) ++ [41] := by conv => lhs; rw [← List.take_append_drop (T.length - 1) (cs T), z2]
        rw [hL] at z3
        exact hX (tail41 z3)
      have ng : ¬ GG n (cs T) := fun z => by
        obtain ⟨r, e⟩ := GG_last (by rw [hL]; simp) z
        rw [hL] at e
        exact hX (tail41 e)
      have hq : Q (.bl false) := h false (ff_iff ng)
      cases wayB ⟨W.toArray⟩ with
      | true =>
        simp
        refine ⟨hT, ?_⟩
        rw [if_neg eL2]
        exact hq
      | false => simpa using hq
end AU

namespace AU
open PySem L2 PySem.Spec PyProof.Rows
theorem Pg.mono : ∀ {n m : Nat} {p : Pg}, n ≤ m → p.ok n = true → p.ok m = true
  | n, m, .mark w, _, h => by
    have := Pg.ok_mark h
    cases m <;> exact this
  | 0, _, .draw _ _ _, _, h => by cases h
  | n + 1, 0, .draw _ _ _, hl, _ => by omega
  | n + 1, m + 1, .draw w a b, hl, h => by
    have h : (wayB w && (a.ok n && b.ok n)) = true := h
    simp only [Bool.and_eq_true] at h
    show (wayB w && (a.ok m && b.ok m)) = true
    rw [h.1, Pg.mono (by omega) h.2.1, Pg.mono (by omega) h.2.2]
    rfl
theorem cutS_len (z : Str) (lo hi : Option Int) : (cutS z lo hi).length ≤ z.length := by
  unfold cutS
  show (List.toArray _).size ≤ _
  rw [List.size_toArray, List.length_take, List.length_drop]
  have : z.cps.toList.length = z.length := cs_len z
  omega
theorem atI_strs {zs : List Str} {r : Int} (h0 : 0 ≤ r) (h1 : r < zs.length) : ∃ w ∈ zs, atI (zs.map D.str) r = some (.str w) := by
  obtain ⟨i, rfl⟩ : ∃ i : Nat, r = i := ⟨r.toNat, by omega⟩
  have hi : i < zs.length := by omega
  exact ⟨zs[i], List.getElem_mem hi, by rw [atI_n (by simpa using hi)]; simp [hi]⟩
def signs : List Str := [("(" : Str), (")" : Str), ("," : Str), (" " : Str), ("a" : Str), ("k" : Str), ("A" : Str), ("back" : Str), ("" : Str)]
theorem signs_len : ∀ w ∈ signs, w.length ≤ 4 := by decide +kernel
def deepF : Nat → Str
  | 0 => "hit"
  | n + 1 => ("back(" ++ deepF n) ++ (", miss)" : Str)
theorem deep_len : ∀ i, i < 8 → (deepF i).length ≤ 100 := by decide +kernel
def odds : List Str := [("" : Str), (" " : Str), ("back" : Str), ("hit miss" : Str), ("back(hit)" : Str), ("back(hit, miss" : Str), ("back(hit,miss)" : Str), ("back (hit, miss)" : Str), deepF 7, ("away(hit, miss)" : Str), ("back(hit, miss))" : Str), ("back(, miss)" : Str), ("(hit, miss)" : Str), ("Hit" : Str), ("ninesigns" : Str), ("hit1" : Str)]
theorem odds_ok : (odds.all fun w => ((!(readF w).isSome) == !(decide (w = "back"))) && decide (w.length ≤ 1000)) = true := by decide +kernel
theorem lits : ("back(" : Str).length = 5 ∧ (", miss)" : Str).length = 7 := by decide +kernel
theorem spoil_loop {ns : List Int} {T : Str} {k : EndsD} (hT : T.length ≤ 2000) (hk : ∀ c1 c2 c3 c4 c5, k.nx [.fz (.scr ns), .fz .drw, .fz (.str T), c1, .un, .un, .un, c2, c3, c4, c5]) :
    ∀ (js : List D) (c1 c2 c3 c4 c5 : Cell), forN (dgN 3) (dSeq (dSet 7 (dCall S__law_draw (dCons (dVar 1) (dCons (dOp fAdd (dB (on1 fLen) (dCons (dVar 2) (dNil))) (dC (.int 1))) (dNil))))) (dSeq (dSet 8 (dOp fIx (dLst (dCons (dC (.str "(")) (dCons (dC (.str ")")) (dCons (dC (.str ",")) (dCons (dC (.str " ")) (dCons (dC (.str "a")) (dCons (dC (.str "k")) (dCons (dC (.str "A")) (dCons (dC (.str "back")) (dCons (dC (.str "")) (dNil))))))))))) (dCall S__law_draw (dCons (dVar 1) (dCons (dC (.int 9)) (dNil)))))) (dSeq (dSet 9 (dCall S__law_draw (dCons (dVar 1) (dCons (dC (.int 2)) (dNil))))) (dSeq (dSet 10 (dOp fAdd (dOp fAdd (dSl (dVar 2) (dNoP) (dPart (dVar 7))) (dVar 8)) (dSl (dVar 2) (dPart (dOp fAdd (dVar 7) (dVar 9))) (dNoP)))) (dIfS (dTest (dOp fNe (dCall S__law_bad (dCons (dVar 10) (dNil))) (dNotV (dCall (S__law_good 6) (dCons (dVar 10) (dCons (dC (.int 6)) (dNil))))))) (dRet (dC (.bl false))) (dNext)))))) js [.fz (.scr ns), .fz .drw, .fz (.str T), c1, .un, .un, .un, c2, c3, c4, c5] k
  | [], c1, c2, c3, c4, c5 => hk c1 c2 c3 c4 c5
  | j :: js, c1, c2, c3, c4, c5 => by
    have ih := spoil_loop hT hk js
    have h24 : T.length ≤ 16777216 := by omega
    unfold forN
    simp [h24]
    refine ⟨(T.length : Int) + 1, rfl, by omega, by omega, fun a a0 a1 => ?_⟩
    refine ⟨9, rfl, by decide, by decide, fun r r0 r1 => ?_⟩
    obtain ⟨w, hw, ew⟩ := atI_strs (zs := signs) r0 r1
    simp only [signs, List.map_cons, List.map_nil] at ew
    have lw := signs_len w hw
    simp
    refine ⟨.str w, ew, ?_⟩
    refine ⟨2, rfl, by decide, by decide, fun z z0 z1 => ?_⟩
    have l1 := cutS_len T none (some a)
    have l2 := cutS_len T (some (a + z)) none
    simp [h24]
    refine ⟨by omega, by rw [len_app]; omega, ?_⟩
    have hL : ((cutS T none (some a) ++ w) ++ cutS T (some (a + z)) none).length ≤ 16777216 := by simp only [len_app]; omega
    generalize (cutS T none (some a) ++ w) ++ cutS T (some (a + z)) none = S at hL
    refine ⟨S, rfl, hL, S, 6, rfl, Nat.le_refl _, hL, fun b hb => ?_⟩
    have e : b = (readF S).isSome := by rw [Bool.eq_iff_iff, hb, read_iff]
    subst e
    simpa using ih _ _ _ _ _
theorem deep_loop {ρ0 : List Cell} {k : EndsD} {a b c d : Cell} {r : List Cell} : ∀ (js : List D) (i : Nat) (c1 : Cell), i + js.length = 7 → (∀ c1, k.nx (a :: b :: c :: c1 :: .fz (.str (deepF 7)) :: r)) →
    forN (dgN 3) (dSet 4 (dOp fAdd (dOp fAdd (dC (.str "back(")) (dVar 4)) (dC (.str ", miss)")))) js (a :: b :: c :: c1 :: .fz (.str (deepF i)) :: r) k
  | [], i, c1, hi, hk => by
    have : i = 7 := by simpa using hi
    subst this
    exact hk c1
  | j :: js, i, c1, hi, hk => by
    rw [List.length_cons] at hi
    have ih := deep_loop (ρ0 := ρ0) (k := k) (a := a) (b := b) (c := c) (d := d) (r := r) js (i + 1) (.fz j) (by omega) hk
    have l1 := deep_len i (by omega)
    obtain ⟨q1, q2⟩ := lits
    unfold forN
    simp
    refine ⟨by omega, by rw [len_app]; omega, ih⟩
theorem p_law : ∀ ds Q Ex, spLaw ds Q Ex → t_law S__law_begin (S_text_of 6) (S__law_program 6) S__law_draw S__law_bad (S__law_good 6) (startD 11 ds) (endsOf Q Ex) := by
  rintro _ Q Ex ⟨ns, rfl, h⟩
  simp [t_law]
  refine ⟨ns, rfl, ?_⟩
  simp
  refine ⟨4, rfl, by decide, by decide, fun r r0 r4 => ?_⟩
  simp
  refine ⟨(1 + r).toNat, by simp; omega, by omega, fun p hp => ?_⟩
  have hp : p.ok 6 = true := Pg.mono (by omega) hp
  refine ⟨p, 6, rfl, Nat.le_refl _, Nat.le_refl _, hp, ?_⟩
  have hl := Pg.text_small hp (Nat.le_refl _)
  simp
  refine spoil_loop (by omega) (fun c1 c2 c3 c4 c5 => ?_) _ _ _ _ _ _
  simp
  refine deep_loop (ρ0 := []) (d := .un) _ 0 _ (by simp [rangeD]) (fun c1 => ?_)
  simp
  refine ⟨16, rfl, by decide, by decide, fun r r0 r1 => ?_⟩
  simp
  obtain ⟨w, hw, ew⟩ := atI_strs (zs := odds) r0 (by rw [show (odds.length : Int) = 16 from rfl]; exact r1)
  have ho := List.all_eq_true.mp odds_ok w hw
  simp only [Bool.and_eq_true, beq_iff_eq, decide_eq_true_eq] at ho
  simp only [odds, List.map_cons, List.map_nil] at ew
  refine ⟨.str w, ew, w, rfl, by omega, ?_⟩
  rw [ho.1]
  by_cases hb : w = "back"
  · simp [hb]
    exact h
  · simp [hb]
    exact h
end AU

namespace AU
open PySem L2 PySem.Spec PyProof.Rows
def lawRoom : Nat := 30
section
variable {P : Program} {w : World} {K : PySem.W.Frag} {mg : Str → Option Value} {base : Heap}
theorem law_ok {fd : FuncData} (F : FunD K "law" "law" (defArgs (top 32)) (defBody (top 32)) (defScope (top 32)) [] [] (He.ga K "law") fd) (T : Kit K mg) : FnOk P w K mg base (L2.CX P w) 30 (He.ga K "law") fd ["_law_script"] (spD K spLaw) := by
  have B := T.bi
  have f_word : Fn P w K mg base 1 "is_word" S_is_word := fn_is_word T.y_is_word B T.c_SMALL (fun ds Q Ex h => by obtain ⟨d, rfl, _⟩ := h; rfl) p_is_word
  have f_within : Fn P w K mg base (0 + 2 + 6) "is_within" (S_is_within 6) := rec_is_within (k := 0) (S := S_is_within) T.y_is_within B f_word (by omega) T.c_WAYS (fun N ds Q Ex h => by obtain ⟨d, n, rfl, _⟩ := h; rfl) p_is_within 6
  have f_program := fn_is_program (k := 8) (S := S_is_program) T.y_is_program B f_within (by omega) T.c_MOST_DRAWS (fun ds Q Ex h => by obtain ⟨d, rfl, _⟩ := h; rfl) p_is_program
  have f_word_at := fn_word_at (P := P) (w := w) (base := base) (k := 0) (S := S_word_at) T.y_word_at B T.c_SMALL (fun ds Q Ex h => by obtain ⟨p, n, rfl, _⟩ := h; rfl) p_word_at
  have f_program_at : Fn P w K mg base (0 + 2 + 6) "program_at" (S_program_at 6) := rec_program_at (k := 0) (S := S_program_at) T.y_program_at B f_word_at (by omega) T.c_WAYS (fun N ds Q Ex h => by obtain ⟨p, n, m, rfl, _⟩ := h; rfl) p_program_at 6
  have f_read := fn_read (k := 10) (S := S_read) T.y_read B f_program_at (by omega) f_program (by omega) T.x_BadText (fun ds Q Ex h => by obtain ⟨p, rfl, _⟩ := h; rfl) p_read
  have f_begin := fn__law_begin (P := P) (w := w) (base := base) (k := 0) T.y__law_begin B
  have f_draw := fn__law_draw (P := P) (w := w) (base := base) (k := 0) T.y__law_draw B
  have f_ways := fn__law_ways (P := P) (w := w) (base := base) (k := 0) (S := S__law_ways) T.y__law_ways B (fun ds Q Ex h => by obtain ⟨rfl, _⟩ := h; rfl) p__law_ways
  have f_lprog : Fn P w K mg base (0 + 2 + 6) "_law_program" (S__law_program 6) := rec__law_program (k := 0) (S := S__law_program) T.y__law_program B f_draw (by omega) f_ways (by omega) (fun N ds Q Ex h => by obtain ⟨n, rfl, _⟩ := h; rfl) p__law_program 6
  have f_ltext : Fn P w K mg base (0 + 2 + 6) "_law_text" (S_text_of 6) := rec__law_text (k := 0) (S := S_text_of) T.y__law_text B (fun N ds Q Ex h => by obtain ⟨p, n, rfl, _⟩ := h; rfl) p__law_text 6
  have f_bad := fn__law_bad (k := 11) (S := S__law_bad) T.y__law_bad B f_read (by omega) T.x_BadText T.m_BadText (fun ds Q Ex h => by obtain ⟨p, rfl, _⟩ := h; rfl) (p__law_bad (by decide +kernel))
  have f_cut := fn__law_cut (P := P) (w := w) (base := base) (k := 0) (S := S__law_cut) T.y__law_cut B (fun ds Q Ex h => by obtain ⟨p, rfl, _⟩ := h; rfl) p__law_cut
  have f_good : Fn P w K mg base (0 + 2 + 6) "_law_good" (S__law_good 6) := rec__law_good (k := 0) (S := S__law_good) T.y__law_good B f_cut (by omega) f_ways (by omega) (fun N ds Q Ex h => by obtain ⟨p, n, rfl, _⟩ := h; rfl) p__law_good 6
  exact ok_law (k := 29) F B f_begin (by omega) f_ltext (by omega) f_lprog (by omega) f_draw (by omega) f_bad (by omega) f_good (by omega) (fun ds Q Ex h => by obtain ⟨ns, rfl, _⟩ := h; rfl) p_law
end
end AU
open PySem PySem.W PySem.Calls PyProof.Rows AU
theorem PySem.Challenge.cw_anyurn_k10_texts_refused_holds : PySem.Challenge.rw_anyurn_k10_texts_refused.Holds := by
  w_on; o_law
  refine HandSHeadRun.head_any (r := RL) (q := view RL.prog [32]) (H := hkL) (ob := obL) (M := 20000) (loose := loose) (d := HandSHeadRun.topDef RL.prog 32) (kwd := []) obL_eq (by kernel_rfl) (fun s => by kernel_rfl) runL (by kernel_rfl) (by kernel_rfl) (by kernel_rfl) (by rfl)
    (by first | assumption | decide +kernel) (by decide +kernel) ⟨rfl, rfl, rfl, rfl, rfl, by decide +kernel⟩ ?hw ?hc
  case hw => w_witness2
  case hc =>
    refine L2.walk_ofE (l := PySem.Challenge.rw_anyurn_k10_texts_refused) (n := 63) (k := lawRoom) (x := "_law_script") (CX := L2.CX0) rfl (by decide) (by kernel_rfl) ⟨rfl, by decide, by decide⟩ ?F (fun _ _ _ _ z => z)
    intro w mg fa h Y G hmg0
    obtain ⟨K, KX, c⟩ := Y
    have hmg : mg ("law" : PySem.Str) = some (.ref fa) := by
      rw [show ("law" : PySem.Str) = (HandSHeadRun.topDef RL.prog 32).name by kernel_rfl]
      exact hmg0
    have T := kit_all_of KX G c
    obtain ⟨fd, F, hm⟩ := T.y_law
    have e : fa = He.ga K "law" := by
      rw [hm] at hmg
      injection hmg with z
      injection z with z
      exact z.symm
    subst e
    have b := L2.FunD.bindsA (ps := ["_law_script"]) F fun _ _ _ _ _ _ us hl => match us, hl with | [_], _ => rfl
    exact ⟨K, fd, (fun vs H Q _ => spD K spLaw vs H Q fun _ _ _ => False), KX, fun s v => b s [v] rfl, fun H a ns hl hO hS => law_start hl hS hO, fun base _ _ => fn_cx0 (law_ok (base := base) F T)⟩

