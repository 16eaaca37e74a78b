import PyProof.Rows.All
import Wide.All
import OpenK.AllK
import Wide.FinOn
import HandS.ForMost
import HandS.Exc
import HandS.ExcOwn
import HandS.TryOnly
import HandS.TryMany
import HandS.WordsExc
import HandS.Defaults
import HandS.HeadHook2
import HandS.TupAny
import HandS.NoneIn
import HandS.Wide
import HandS.WideBits
import HandS.FStr
import HandS.TupMul
import HandS.IsInst
import HandS.Head2
import HandS.HeadEnd
import HandS.Text
import HandS.StrMore
import HandS.Dict
import HandS.Zip
import HandS.DictComp
import HandS.More
import HandS.SortInts
import HandS.OwnEq
import HandS.SlotsOwn
import KE.KDictOf
import KE.KDictCopyH
import KE.KDictDisplayH
import KE.KEqDict
import KE.KDictSum
import HandS.Conv
import HandS.SortRule
import HandS.SetFor
import KE.KTupSum
import HandS.Flt
import HandS.Codes
import KE.KOpsOwn
import KE.GoesMore
import KE.GoesEnum
import HandS.SetTxt0
import PySem.Challenge.RW_anyurn_k02_programs_looked_at
set_option Elab.async false
set_option linter.all false
set_option maxRecDepth 100000
set_option maxHeartbeats 4000000
/-! AuBase: data without a heap (D), how the abstract heap bears it (Rep), what a step may do (Step), readings over data (DT, DS), their lifting to HandS's readings. -/
namespace AU
open PySem L2 PySem.Spec PyProof.Rows

/-- a value as data: tuples, lists and dicts with all that is in them; a chance; the law's draws; the script -/
inductive D where
  | non
  | bl (b : Bool)
  | int (i : Int)
  | str (x : Str)
  | tup (ds : List D)
  | lst (ds : List D)
  | dS (kvs : List (Str × D))
  | dT (kvs : List (List Int × D))
  | ch (tp : List (List Int × Int)) (bt : List Int)
  | drw
  | scr (ns : List Int)
  | adr (a : Addr)

/-- the frozen part G of the heap H; the draws that stand at M -/
structure Gh where
  G : Hp
  M : List Addr
  H : Hp

def chF (t b : Addr) : List (Str × V) := putF "bottom" (.ref b) (putF "top" (.ref t) [])
def kI (ks : List Int) : List Key := ks.map Sum.inl

/-- a tuple that stands; or one of the module's, of texts -/
def TpAt (K : PySem.W.Frag) (G : Hp) (a : Addr) (vs : List V) : Prop := SqT K G a vs ∧ (G a = some (.tup vs) ∨ ∀ v ∈ vs, ∃ z, v = V.str z)
mutual
inductive Rep (K : PySem.W.Frag) (g : Gh) : V → D → Prop
  | non : Rep K g .non .non
  | bl (b : Bool) : Rep K g (.bl b) (.bl b)
  | int (i : Int) : Rep K g (.int i) (.int i)
  | str (x : Str) : Rep K g (.str x) (.str x)
  | tup {a : Addr} {vs : List V} {ds : List D} : TpAt K g.G a vs → Reps K g vs ds → Rep K g (.ref a) (.tup ds)
  | lst {a : Addr} {vs : List V} {ds : List D} : g.G a = some (.lst vs) → Reps K g vs ds → Rep K g (.ref a) (.lst ds)
  | dS {a : Addr} {kvs : List (Key × V)} {ds : List (Str × D)} : g.G a = some (.dK kvs) → RepK K g kvs ds → Rep K g (.ref a) (.dS ds)
  | dT {a : Addr} {kvs : List (List Key × V)} {ds : List (List Int × D)} : g.G a = some (.dT kvs) → RepT K g kvs ds → Rep K g (.ref a) (.dT ds)
  | ch {a dx t b : Addr} {tp : List (List Int × Int)} {bt : List Int} : g.G a = some (.ins (He.ga K "Chance") dx (chF t b)) →
      g.G t = some (.dT (tp.map fun q => (kI q.1, V.int q.2))) → TpAt K g.G b (bt.map V.int) → Rep K g (.ref a) (.ch tp bt)
  | drw {a : Addr} : a ∈ g.M → Rep K g (.ref a) .drw
  | scr {a : Addr} {ns : List Int} : SqL K g.G a (ns.map V.int) → ns.length ≤ 63 → Rep K g (.ref a) (.scr ns)
  | adr (a : Addr) : Rep K g (.ref a) (.adr a)
inductive Reps (K : PySem.W.Frag) (g : Gh) : List V → List D → Prop
  | nil : Reps K g [] []
  | cons {v : V} {vs : List V} {d : D} {ds : List D} : Rep K g v d → Reps K g vs ds → Reps K g (v :: vs) (d :: ds)
inductive RepK (K : PySem.W.Frag) (g : Gh) : List (Key × V) → List (Str × D) → Prop
  | nil : RepK K g [] []
  | cons {k : Str} {v : V} {vs : List (Key × V)} {d : D} {ds : List (Str × D)} : Rep K g v d → RepK K g vs ds → RepK K g ((Sum.inr k, v) :: vs) ((k, d) :: ds)
inductive RepT (K : PySem.W.Frag) (g : Gh) : List (List Key × V) → List (List Int × D) → Prop
  | nil : RepT K g [] []
  | cons {k : List Int} {v : V} {vs : List (List Key × V)} {d : D} {ds : List (List Int × D)} : Rep K g v d → RepT K g vs ds → RepT K g ((kI k, v) :: vs) ((k, d) :: ds)
end

/-- a dict -/
def isD : HO → Prop
  | .dK _ => True
  | .dT _ => True
  | _ => False
def isTp : HO → Prop
  | .tup _ => True
  | _ => False
/-- the law's draws at a -/
def DrawsAt (g : Gh) (a : Addr) : Prop := ∃ (l : Addr) (ns : List Int) (i c st : Int), g.H a = some (.lst [.ref l, .int i, .int c, .int st]) ∧ g.G l = some (.lst (ns.map V.int)) ∧ ns.length ≤ 63 ∧ 0 ≤ i ∧ 0 ≤ c
structure Hold (g : Gh) : Prop where
  le : ∀ a o, g.G a = some o → g.H a = some o ∨ (isD o ∧ ∃ ob, g.H a = some (.frz ob o))
  dis : ∀ a ∈ g.M, g.G a = none
  mok : ∀ a ∈ g.M, DrawsAt g a
/-- what code may do: freeze what is new (or a tuple), turn the draws -/
structure Step (g g' : Gh) : Prop where
  gs : ∀ a o, g.G a = some o → g'.G a = some o
  gn : ∀ a o, g'.G a = some o → g.G a = some o ∨ g.H a = none ∨ isTp o
  ms : ∀ a ∈ g.M, a ∈ g'.M
  mn : ∀ a ∈ g'.M, a ∈ g.M ∨ g.H a = none
  hs : ∀ a o, g.H a = some o → a ∉ g.M → g'.H a = some o
  ok : Hold g'
theorem Step.refl {g : Gh} (h : Hold g) : Step g g := ⟨fun _ _ e => e, fun _ _ e => .inl e, fun _ e => e, fun _ e => .inl e, fun _ _ e _ => e, h⟩
/-- what is not tracked later was not tracked before -/
theorem Step.none {g g' : Gh} (s : Step g g') {a : Addr} (e : g'.H a = none) : g.H a = none := by
  cases q : g.H a with
  | none => rfl
  | some o =>
    by_cases hm : a ∈ g.M
    · obtain ⟨l, ns, i, c, st, h1, _⟩ := s.ok.mok a (s.ms a hm)
      rw [e] at h1
      cases h1
    · rw [s.hs a o q hm] at e
      cases e
theorem Step.trans {g g1 g2 : Gh} (a : Step g g1) (b : Step g1 g2) : Step g g2 where
  gs := fun x o e => b.gs x o (a.gs x o e)
  gn := fun x o e => by
    rcases b.gn x o e with h | h | h
    · exact a.gn x o h
    · exact .inr (.inl (a.none h))
    · exact .inr (.inr h)
  ms := fun x h => b.ms x (a.ms x h)
  mn := fun x h => by
    rcases b.mn x h with h | h
    · exact a.mn x h
    · exact .inr (a.none h)
  hs := fun x o e h => by
    refine b.hs x o (a.hs x o e h) fun hm => ?_
    rcases a.mn x hm with q | q
    · exact h q
    · rw [e] at q; cases q
  ok := b.ok

/-! ### what is borne stays -/
section
variable {K : PySem.W.Frag} {g g' : Gh}
theorem SqT.up {H H' : Hp} {a : Addr} {xs : List V} (h : SqT K H a xs) (e : ∀ b o, H b = some o → H' b = some o) : SqT K H' a xs :=
  h.elim (fun h => .inl (h.elim (fun h => .inl (e _ _ h)) fun ⟨o, h⟩ => .inr ⟨o, e _ _ h⟩)) fun h => .inr h
theorem TpAt.up {H H' : Hp} {a : Addr} {xs : List V} (h : TpAt K H a xs) (e : ∀ b o, H b = some o → H' b = some o) : TpAt K H' a xs := ⟨SqT.up h.1 e, h.2.elim (fun h => .inl (e _ _ h)) .inr⟩
theorem TpAt.of {H : Hp} {a : Addr} {xs : List V} (h : H a = some (.tup xs)) : TpAt K H a xs := ⟨SqT.of h, .inl h⟩
theorem SqL.up {H H' : Hp} {a : Addr} {xs : List V} (h : SqL K H a xs) (e : ∀ b o, H b = some o → H' b = some o) : SqL K H' a xs :=
  h.elim (fun h => .inl (h.elim (fun h => .inl (e _ _ h)) fun ⟨o, h⟩ => .inr ⟨o, e _ _ h⟩)) fun h => .inr h
mutual
theorem Rep.up (hg : ∀ b o, g.G b = some o → g'.G b = some o) (hm : ∀ b ∈ g.M, b ∈ g'.M) : ∀ {v : V} {d : D}, Rep K g v d → Rep K g' v d
  | _, _, .non => .non
  | _, _, .bl b => .bl b
  | _, _, .int i => .int i
  | _, _, .str x => .str x
  | _, _, .tup h r => .tup (TpAt.up h hg) (Reps.up hg hm r)
  | _, _, .lst h r => .lst (hg _ _ h) (Reps.up hg hm r)
  | _, _, .dS h r => .dS (hg _ _ h) (RepK.up hg hm r)
  | _, _, .dT h r => .dT (hg _ _ h) (RepT.up hg hm r)
  | _, _, .ch h1 h2 h3 => .ch (hg _ _ h1) (hg _ _ h2) (TpAt.up h3 hg)
  | _, _, .drw h => .drw (hm _ h)
  | _, _, .scr h l => .scr (SqL.up h hg) l
  | _, _, .adr a => .adr a
theorem Reps.up (hg : ∀ b o, g.G b = some o → g'.G b = some o) (hm : ∀ b ∈ g.M, b ∈ g'.M) : ∀ {v : List V} {d : List D}, Reps K g v d → Reps K g' v d
  | _, _, .nil => .nil
  | _, _, .cons h r => .cons (Rep.up hg hm h) (Reps.up hg hm r)
theorem RepK.up (hg : ∀ b o, g.G b = some o → g'.G b = some o) (hm : ∀ b ∈ g.M, b ∈ g'.M) : ∀ {v : List (Key × V)} {d : List (Str × D)}, RepK K g v d → RepK K g' v d
  | _, _, .nil => .nil
  | _, _, .cons h r => .cons (Rep.up hg hm h) (RepK.up hg hm r)
theorem RepT.up (hg : ∀ b o, g.G b = some o → g'.G b = some o) (hm : ∀ b ∈ g.M, b ∈ g'.M) : ∀ {v : List (List Key × V)} {d : List (List Int × D)}, RepT K g v d → RepT K g' v d
  | _, _, .nil => .nil
  | _, _, .cons h r => .cons (Rep.up hg hm h) (RepT.up hg hm r)
end
theorem Rep.step {v : V} {d : D} (r : Rep K g v d) (s : Step g g') : Rep K g' v d := r.up s.gs s.ms
theorem Reps.step {v : List V} {d : List D} (r : Reps K g v d) (s : Step g g') : Reps K g' v d := r.up s.gs s.ms
theorem RepK.step {v : List (Key × V)} {d : List (Str × D)} (r : RepK K g v d) (s : Step g g') : RepK K g' v d := r.up s.gs s.ms
theorem RepT.step {v : List (List Key × V)} {d : List (List Int × D)} (r : RepT K g v d) (s : Step g g') : RepT K g' v d := r.up s.gs s.ms
theorem Reps.length : ∀ {vs : List V} {ds : List D}, Reps K g vs ds → vs.length = ds.length
  | _, _, .nil => rfl
  | _, _, .cons _ r => by rw [List.length_cons, List.length_cons, r.length]
theorem RepK.length : ∀ {vs : List (Key × V)} {ds : List (Str × D)}, RepK K g vs ds → vs.length = ds.length
  | _, _, .nil => rfl
  | _, _, .cons _ r => by rw [List.length_cons, List.length_cons, r.length]
theorem RepT.length : ∀ {vs : List (List Key × V)} {ds : List (List Int × D)}, RepT K g vs ds → vs.length = ds.length
  | _, _, .nil => rfl
  | _, _, .cons _ r => by rw [List.length_cons, List.length_cons, r.length]
theorem Reps.get : ∀ {vs : List V} {ds : List D} {i : Nat} {d : D}, Reps K g vs ds → ds[i]? = some d → ∃ v, vs[i]? = some v ∧ Rep K g v d
  | _, _, _, _, .nil, e => by simp at e
  | _, _, 0, _, .cons h _, e => by simp at e; subst e; exact ⟨_, rfl, h⟩
  | _, _, i + 1, d, .cons _ r, e => by
    obtain ⟨v, h1, h2⟩ := Reps.get (i := i) (d := d) r (by simpa using e)
    exact ⟨v, by simpa using h1, h2⟩
theorem Reps.got : ∀ {vs : List V} {ds : List D} {i : Nat} {v : V}, Reps K g vs ds → vs[i]? = some v → ∃ d, ds[i]? = some d ∧ Rep K g v d
  | _, _, _, _, .nil, e => by simp at e
  | _, _, 0, _, .cons h _, e => by simp at e; subst e; exact ⟨_, rfl, h⟩
  | _, _, i + 1, v, .cons _ r, e => by
    obtain ⟨d, h1, h2⟩ := Reps.got (i := i) (v := v) r (by simpa using e)
    exact ⟨d, by simpa using h1, h2⟩
theorem Reps.append : ∀ {vs ws : List V} {ds es : List D}, Reps K g vs ds → Reps K g ws es → Reps K g (vs ++ ws) (ds ++ es)
  | _, _, _, _, .nil, s => s
  | _, _, _, _, .cons h r, s => .cons h (Reps.append r s)
theorem Reps.take : ∀ {vs : List V} {ds : List D} (n : Nat), Reps K g vs ds → Reps K g (vs.take n) (ds.take n)
  | _, _, 0, _ => .nil
  | _, _, _ + 1, .nil => .nil
  | _, _, n + 1, .cons h r => .cons h (Reps.take n r)
theorem Reps.drop : ∀ {vs : List V} {ds : List D} (n : Nat), Reps K g vs ds → Reps K g (vs.drop n) (ds.drop n)
  | _, _, 0, r => r
  | _, _, _ + 1, .nil => .nil
  | _, _, n + 1, .cons _ r => Reps.drop n r
theorem reps_ints : ∀ (ns : List Int), Reps K g (ns.map V.int) (ns.map D.int)
  | [] => .nil
  | n :: r => .cons (.int n) (reps_ints r)
theorem reps_strs : ∀ (ns : List Str), Reps K g (ns.map V.str) (ns.map D.str)
  | [] => .nil
  | n :: r => .cons (.str n) (reps_strs r)
theorem ints_of_reps : ∀ {vs : List V} {ns : List Int}, Reps K g vs (ns.map D.int) → vs = ns.map V.int
  | _, [], .nil => rfl
  | _, n :: r, .cons h t => by
    cases h
    rw [List.map_cons, ints_of_reps t]
theorem strs_of_reps : ∀ {vs : List V} {ns : List Str}, Reps K g vs (ns.map D.str) → vs = ns.map V.str
  | _, [], .nil => rfl
  | _, n :: r, .cons h t => by
    cases h
    rw [List.map_cons, strs_of_reps t]
theorem bls_of_reps : ∀ {vs : List V} {ns : List Bool}, Reps K g vs (ns.map D.bl) → vs = ns.map V.bl
  | _, [], .nil => rfl
  | _, n :: r, .cons h t => by
    cases h
    rw [List.map_cons, bls_of_reps t]

/-! ### a new frozen thing; what is read off the heap -/
theorem Hold.sqT (h : Hold g) {a : Addr} {xs : List V} (s : TpAt K g.G a xs) : SqT K g.H a xs := by
  obtain ⟨s, _⟩ := s
  rcases s with (s | ⟨o, s⟩) | s
  · rcases h.le _ _ s with q | ⟨q, _⟩
    · exact .inl (.inl q)
    · exact q.elim
  · rcases h.le _ _ s with q | ⟨q, _⟩
    · exact .inl (.inr ⟨o, q⟩)
    · exact q.elim
  · exact .inr s
theorem Hold.sqL (h : Hold g) {a : Addr} {xs : List V} (s : SqL K g.G a xs) : SqL K g.H a xs := by
  rcases s with (s | ⟨o, s⟩) | s
  · rcases h.le _ _ s with q | ⟨q, _⟩
    · exact .inl (.inl q)
    · exact q.elim
  · rcases h.le _ _ s with q | ⟨q, _⟩
    · exact .inl (.inr ⟨o, q⟩)
    · exact q.elim
  · exact .inr s
theorem Hold.lst (h : Hold g) {a : Addr} {xs : List V} (s : g.G a = some (.lst xs)) : g.H a = some (.lst xs) := by
  rcases h.le _ _ s with q | ⟨q, _⟩
  · exact q
  · exact q.elim
theorem Hold.ins (h : Hold g) {a C dx : Addr} {fs : List (Str × V)} (s : g.G a = some (.ins C dx fs)) : g.H a = some (.ins C dx fs) := by
  rcases h.le _ _ s with q | ⟨q, _⟩
  · exact q
  · exact q.elim
theorem Hold.free (h : Hold g) {a : Addr} (e : g.H a = none) : g.G a = none := by
  cases q : g.G a with
  | none => rfl
  | some o =>
    rcases h.le _ _ q with z | ⟨_, _, z⟩ <;> · rw [e] at z; cases z
theorem Hold.notM (h : Hold g) {a : Addr} (e : g.H a = none) : a ∉ g.M := fun hm => by
  obtain ⟨l, ns, i, c, st, h1, _⟩ := h.mok a hm
  rw [e] at h1; cases h1
/-- the ghost state behind a new frozen o at p -/
abbrev Gh.new (g : Gh) (p : Addr) (o : HO) : Gh := ⟨upd g.G p o, g.M, upd g.H p o⟩
/-- behind a new o at p, not frozen -/
abbrev Gh.own (g : Gh) (p : Addr) (o : HO) : Gh := ⟨g.G, g.M, upd g.H p o⟩
theorem Hold.newOk (h : Hold g) {p : Addr} (o : HO) (e : g.H p = none) : Hold (g.new p o) where
  le := fun a u q => by
    have q' : upd g.G p o a = some u := q
    by_cases hb : a = p
    · subst hb; rw [upd_same] at q'; cases q'; exact .inl upd_same
    · rw [upd_ne hb] at q'
      show upd g.H p o a = some u ∨ _
      rcases h.le a u q' with z | ⟨z, ob, y⟩
      · left; rw [upd_ne hb]; exact z
      · right; refine ⟨z, ob, ?_⟩
        show upd g.H p o a = _
        rw [upd_ne hb]; exact y
  dis := fun a hm => by
    show upd g.G p o a = none
    have : a ≠ p := fun q => h.notM e (q ▸ hm)
    rw [upd_ne this]; exact h.dis a hm
  mok := fun a hm => by
    obtain ⟨l, ns, i, c, st, h1, h2, h3⟩ := h.mok a hm
    have n1 : a ≠ p := fun q => h.notM e (q ▸ hm)
    have n2 : l ≠ p := fun q => by rw [q, h.free e] at h2; cases h2
    refine ⟨l, ns, i, c, st, ?_, ?_, h3⟩
    · show upd g.H p o a = _
      rw [upd_ne n1]; exact h1
    · show upd g.G p o l = _
      rw [upd_ne n2]; exact h2
theorem Hold.new (h : Hold g) {p : Addr} (o : HO) (e : g.H p = none) : Step g (g.new p o) where
  gs := fun a u q => by
    show upd g.G p o a = some u
    rw [upd_ne (ne_of_none q (h.free e))]; exact q
  gn := fun a u q => by
    have q' : upd g.G p o a = some u := q
    by_cases hb : a = p
    · right; left; rw [hb]; exact e
    · rw [upd_ne hb] at q'; exact .inl q'
  ms := fun _ h => h
  mn := fun _ h => .inl h
  hs := fun a u q _ => by
    show upd g.H p o a = some u
    rw [upd_ne (ne_of_none q e)]; exact q
  ok := h.newOk o e
theorem Hold.ownOk (h : Hold g) {p : Addr} (o : HO) (e : g.H p = none) : Hold (g.own p o) where
  le := fun a u q => by
    have hb : a ≠ p := ne_of_none q (h.free e)
    rcases h.le a u q with z | ⟨z, ob, y⟩
    · left; show upd g.H p o a = _; rw [upd_ne hb]; exact z
    · right; refine ⟨z, ob, ?_⟩; show upd g.H p o a = _; rw [upd_ne hb]; exact y
  dis := h.dis
  mok := fun a hm => by
    obtain ⟨l, ns, i, c, st, h1, h2, h3⟩ := h.mok a hm
    have n1 : a ≠ p := fun q => h.notM e (q ▸ hm)
    refine ⟨l, ns, i, c, st, ?_, h2, h3⟩
    show upd g.H p o a = _
    rw [upd_ne n1]; exact h1
theorem Hold.own (h : Hold g) {p : Addr} (o : HO) (e : g.H p = none) : Step g (g.own p o) where
  gs := fun a u q => q
  gn := fun a u q => .inl q
  ms := fun _ h => h
  mn := fun _ h => .inl h
  hs := fun a u q _ => by
    show upd g.H p o a = some u
    rw [upd_ne (ne_of_none q e)]; exact q
  ok := h.ownOk o e
end

/-! ### a def's names: not set, frozen data, data of one's own (a list or dict that no one else knows) -/
inductive Cell where
  | un | fz (d : D) | ow (d : D)
abbrev Rho := List Cell
/-- p holds d, and is no one else's; g0: at the def's entry -/
def OwnH (K : PySem.W.Frag) (g : Gh) (p : Addr) : D → Prop
  | .lst ds => ∃ vs, g.H p = some (.lst vs) ∧ Reps K g vs ds
  | .dS ds => ∃ kvs, g.H p = some (.dK kvs) ∧ RepK K g kvs ds
  | .dT ds => ∃ kvs, g.H p = some (.dT kvs) ∧ RepT K g kvs ds
  | _ => False
structure Own (K : PySem.W.Frag) (g0 g : Gh) (p : Addr) (d : D) : Prop where
  n0 : g0.H p = none
  ng : g.G p = none
  nm : p ∉ g.M
  at_ : OwnH K g p d
structure EnvOk (K : PySem.W.Frag) (g0 g : Gh) (ρ : Rho) (σ : L2.St) : Prop where
  len : ρ.length = σ.length
  fz : ∀ (i : Nat) (d : D), ρ[i]? = some (.fz d) → ∃ v, σ[i]? = some (some v) ∧ Rep K g v d
  ow : ∀ (i : Nat) (d : D), ρ[i]? = some (.ow d) → ∃ p, σ[i]? = some (some (.ref p)) ∧ Own K g0 g p d
  ap : ∀ (i j : Nat) (d e : D) (p : Addr), i ≠ j → ρ[i]? = some (.ow d) → ρ[j]? = some (.ow e) → σ[i]? = some (some (.ref p)) → σ[j]? = some (some (.ref p)) → False
section
variable {K : PySem.W.Frag} {g0 g g' : Gh}
theorem OwnH.some {p : Addr} {d : D} (h : OwnH K g p d) : ∃ o, g.H p = some o ∧ ¬ isTp o := by
  cases d with
  | lst ds => obtain ⟨vs, e, _⟩ := h; exact ⟨_, e, fun z => z⟩
  | dS ds => obtain ⟨vs, e, _⟩ := h; exact ⟨_, e, fun z => z⟩
  | dT ds => obtain ⟨vs, e, _⟩ := h; exact ⟨_, e, fun z => z⟩
  | _ => exact h.elim
theorem Own.step {p : Addr} {d : D} (o : Own K g0 g p d) (s : Step g g') : Own K g0 g' p d := by
  obtain ⟨u, hu, nt⟩ := OwnH.some o.at_
  have hk : g'.H p = some u := s.hs p u hu o.nm
  refine ⟨o.n0, ?_, fun hm => ?_, ?_⟩
  · cases q : g'.G p with
    | none => rfl
    | some z =>
      rcases s.gn p z q with h | h | h
      · rw [o.ng] at h; cases h
      · rw [hu] at h; cases h
      · rcases s.ok.le p z q with y | ⟨y, ob, _⟩
        · rw [hk] at y; cases y; exact (nt h).elim
        · cases z <;> first | exact y.elim | exact h.elim
  · rcases s.mn p hm with h | h
    · exact o.nm h
    · rw [hu] at h; cases h
  · have at_ := o.at_
    cases d with
    | lst ds => obtain ⟨vs, e, r⟩ := at_; exact ⟨vs, s.hs _ _ e o.nm, r.step s⟩
    | dS ds => obtain ⟨vs, e, r⟩ := at_; exact ⟨vs, s.hs _ _ e o.nm, r.step s⟩
    | dT ds => obtain ⟨vs, e, r⟩ := at_; exact ⟨vs, s.hs _ _ e o.nm, r.step s⟩
    | _ => exact at_.elim
theorem EnvOk.step {ρ : Rho} {σ : L2.St} (e : EnvOk K g0 g ρ σ) (s : Step g g') : EnvOk K g0 g' ρ σ :=
  ⟨e.len, fun i d h => let ⟨v, h1, h2⟩ := e.fz i d h; ⟨v, h1, h2.step s⟩, fun i d h => let ⟨p, h1, h2⟩ := e.ow i d h; ⟨p, h1, h2.step s⟩, e.ap⟩
/-- a name gets frozen data -/
theorem EnvOk.set {ρ : Rho} {σ : L2.St} (e : EnvOk K g0 g ρ σ) {v : V} {d : D} (r : Rep K g v d) (i : Nat) : EnvOk K g0 g (ρ.set i (.fz d)) (σ.set i (some v)) := by
  have hl : ∀ j : Nat, j < ρ.length ↔ j < σ.length := fun j => by rw [e.len]
  refine ⟨by rw [List.length_set, List.length_set, e.len], fun j x h => ?_, fun j x h => ?_, fun j k x y p hjk h1 h2 h3 h4 => ?_⟩
  · by_cases hj : i = j
    · subst hj
      by_cases hb : i < ρ.length
      · rw [List.getElem?_set_self hb] at h
        cases h
        exact ⟨v, by rw [List.getElem?_set_self ((hl i).mp hb)], r⟩
      · rw [List.getElem?_eq_none (by simpa using hb)] at h; cases h
    · rw [List.getElem?_set_ne hj] at h
      obtain ⟨w, h1, h2⟩ := e.fz j x h
      exact ⟨w, by rw [List.getElem?_set_ne hj]; exact h1, h2⟩
  · by_cases hj : i = j
    · subst hj
      by_cases hb : i < ρ.length
      · rw [List.getElem?_set_self hb] at h; cases h
      · rw [List.getElem?_eq_none (by simpa using hb)] at h; cases h
    · rw [List.getElem?_set_ne hj] at h
      obtain ⟨w, h1, h2⟩ := e.ow j x h
      exact ⟨w, by rw [List.getElem?_set_ne hj]; exact h1, h2⟩
  · have ne : ∀ (j : Nat) (x : D), (ρ.set i (.fz d))[j]? = some (.ow x) → i ≠ j := fun j x h hj => by
      subst hj
      by_cases hb : i < ρ.length
      · rw [List.getElem?_set_self hb] at h; cases h
      · rw [List.getElem?_eq_none (by simpa using hb)] at h; cases h
    have nj := ne j x h1
    have nk := ne k y h2
    rw [List.getElem?_set_ne nj] at h1 h3
    rw [List.getElem?_set_ne nk] at h2 h4
    exact e.ap j k x y p hjk h1 h2 h3 h4
/-- a name gets data of its own -/
theorem EnvOk.setOwn {ρ : Rho} {σ : L2.St} (e : EnvOk K g0 g ρ σ) {p : Addr} {d : D} (r : Own K g0 g p d) (i : Nat) (ap : ∀ (j : Nat) (x : D), j ≠ i → ρ[j]? = some (.ow x) → σ[j]? ≠ some (some (.ref p))) : EnvOk K g0 g (ρ.set i (.ow d)) (σ.set i (some (.ref p))) := by
  have hl : ∀ j : Nat, j < ρ.length ↔ j < σ.length := fun j => by rw [e.len]
  refine ⟨by rw [List.length_set, List.length_set, e.len], fun j x h => ?_, fun j x h => ?_, fun j k x y q hjk h1 h2 h3 h4 => ?_⟩
  · by_cases hj : i = j
    · subst hj
      by_cases hb : i < ρ.length
      · rw [List.getElem?_set_self hb] at h; cases h
      · rw [List.getElem?_eq_none (by simpa using hb)] at h; cases h
    · rw [List.getElem?_set_ne hj] at h
      obtain ⟨w, h1, h2⟩ := e.fz j x h
      exact ⟨w, by rw [List.getElem?_set_ne hj]; exact h1, h2⟩
  · by_cases hj : i = j
    · subst hj
      by_cases hb : i < ρ.length
      · rw [List.getElem?_set_self hb] at h
        cases h
        exact ⟨p, by rw [List.getElem?_set_self ((hl i).mp hb)], r⟩
      · rw [List.getElem?_eq_none (by simpa using hb)] at h; cases h
    · rw [List.getElem?_set_ne hj] at h
      obtain ⟨w, h1, h2⟩ := e.ow j x h
      exact ⟨w, by rw [List.getElem?_set_ne hj]; exact h1, h2⟩
  · have self : ∀ (z : V), (σ.set i (some (.ref p)))[i]? = some (some z) → z = .ref p := fun z h => by
      by_cases hb : i < σ.length
      · rw [List.getElem?_set_self hb] at h; cases h; rfl
      · rw [List.getElem?_eq_none (by simpa using hb)] at h; cases h
    by_cases hj : j = i
    · subst hj
      have hk : j ≠ k := hjk
      have e1 := self _ h3
      cases e1
      rw [List.getElem?_set_ne hk] at h2 h4
      exact ap k y (Ne.symm hk) h2 h4
    · by_cases hk : k = i
      · subst hk
        have e1 := self _ h4
        cases e1
        rw [List.getElem?_set_ne (Ne.symm hj)] at h1 h3
        exact ap j x hj h1 h3
      · rw [List.getElem?_set_ne (Ne.symm hj)] at h1 h3
        rw [List.getElem?_set_ne (Ne.symm hk)] at h2 h4
        exact e.ap j k x y q hjk h1 h2 h3 h4
end
end AU

/-! AuRead: readings over data, and what lifts them. -/
namespace AU
open PySem L2 PySem.Spec PyProof.Rows

/-! ### expressions, tests -/
abbrev DT := Rho → (D → Prop) → (Str → Prop) → Prop
abbrev DB := Rho → (Bool → Prop) → (Str → Prop) → Prop
abbrev DA := Rho → (List D → Prop) → (Str → Prop) → Prop
/-- the exceptions' side of a wish -/
def XOk (K : PySem.W.Frag) (W : WX) (g : Gh) (σ : L2.St) (Ex : Str → Prop) : Prop := ∀ c, Ex c → ∀ g', Step g g' → W (.ref (He.ga K c)) none σ g'.H
def lift (K : PySem.W.Frag) (W : WX) (g0 : Gh) (t : DT) : TE := fun σ H Q => ∃ (g : Gh) (ρ : Rho) (P : D → Prop) (Ex : Str → Prop), g.H = H ∧ Step g0 g ∧ EnvOk K g0 g ρ σ ∧ t ρ P Ex ∧
  (∀ d, P d → ∀ v g', Step g g' → Rep K g' v d → Q v g'.H) ∧ XOk K W g σ Ex
def liftB (K : PySem.W.Frag) (W : WX) (g0 : Gh) (t : DB) : TT := fun σ H Q => ∃ (g : Gh) (ρ : Rho) (P : Bool → Prop) (Ex : Str → Prop), g.H = H ∧ Step g0 g ∧ EnvOk K g0 g ρ σ ∧ t ρ P Ex ∧
  (∀ d, P d → ∀ g', Step g g' → Q d g'.H) ∧ XOk K W g σ Ex
def liftA (K : PySem.W.Frag) (W : WX) (g0 : Gh) (t : DA) : TA := fun σ H Q => ∃ (g : Gh) (ρ : Rho) (P : List D → Prop) (Ex : Str → Prop), g.H = H ∧ Step g0 g ∧ EnvOk K g0 g ρ σ ∧ t ρ P Ex ∧
  (∀ d, P d → ∀ v g', Step g g' → Reps K g' v d → Q v g'.H) ∧ XOk K W g σ Ex
/-- .. of what is new and known to no one else -/
def liftF (K : PySem.W.Frag) (W : WX) (g0 : Gh) (t : DT) : TE := fun σ H Q => ∃ (g : Gh) (ρ : Rho) (P : D → Prop) (Ex : Str → Prop), g.H = H ∧ Step g0 g ∧ EnvOk K g0 g ρ σ ∧ t ρ P Ex ∧
  (∀ d, P d → ∀ p g', Step g g' → g.H p = none → Own K g0 g' p d → Q (.ref p) g'.H) ∧ XOk K W g σ Ex
abbrev DE (X : Cx) (W : WX) (g0 : Gh) (e : Expr) (t : DT) : Prop := PE X e (lift X.K W g0 t)
abbrev DF (X : Cx) (W : WX) (g0 : Gh) (e : Expr) (t : DT) : Prop := PE X e (liftF X.K W g0 t)
abbrev DTt (X : Cx) (W : WX) (g0 : Gh) (e : Expr) (t : DB) : Prop := PT X e (liftB X.K W g0 t)
abbrev DPA (X : Cx) (W : WX) (g0 : Gh) (es : List Expr) (t : DA) : Prop := PA X es (liftA X.K W g0 t)
theorem PE.imp {X : Cx} {e : Expr} {t t' : TE} (h : PE X e t) (i : ∀ σ H Q, t' σ H Q → t σ H Q) : PE X e t' := ⟨fun pins s σ H Q I w => h.run pins s σ H Q I (i _ _ _ w)⟩
theorem PT.imp {X : Cx} {e : Expr} {t t' : TT} (h : PT X e t) (i : ∀ σ H Q, t' σ H Q → t σ H Q) : PT X e t' := ⟨fun pins s σ H Q I w => h.run pins s σ H Q I (i _ _ _ w)⟩
theorem PA.imp {X : Cx} {e : List Expr} {t t' : TA} (h : PA X e t) (i : ∀ σ H Q, t' σ H Q → t σ H Q) : PA X e t' := ⟨fun pos pins s σ H Q I w => h.run pos pins s σ H Q I (i _ _ _ w)⟩
theorem PS.imp {X : Cx} {e : Stmt} {t t' : TS} (h : PS X e t) (i : ∀ D σ H, t' D σ H → t D σ H) : PS X e t' := ⟨fun pins s σ H D I w => h.run pins s σ H D I (i _ _ _ w)⟩
theorem PSs.imp {X : Cx} {e : List Stmt} {t t' : TS} (h : PSs X e t) (i : ∀ D σ H, t' D σ H → t D σ H) : PSs X e t' := ⟨fun pins s σ H D I w => h.run pins s σ H D I (i _ _ _ w)⟩
theorem PS.or {X : Cx} {e : Stmt} {t t' : TS} (h : PS X e t) (h' : PS X e t') : PS X e (fun D σ H => t D σ H ∨ t' D σ H) := ⟨fun pins s σ H D I w => w.elim (h.run pins s σ H D I) (h'.run pins s σ H D I)⟩
theorem PE.or {X : Cx} {e : Expr} {t t' : TE} (h : PE X e t) (h' : PE X e t') : PE X e (fun D σ H => t D σ H ∨ t' D σ H) := ⟨fun pins s σ H D I w => w.elim (h.run pins s σ H D I) (h'.run pins s σ H D I)⟩

@[simp] def dVar (i : Nat) : DT := fun ρ P _ => match ρ[i]? with
  | some (.fz d) => P d
  | _ => False
@[simp] def dC (d : D) : DT := fun _ P _ => P d
section
variable {X : Cx} {W : WX} {g0 g g1 : Gh} {K : PySem.W.Frag} {σ : L2.St} {Ex : Str → Prop}
theorem XOk.step (x : XOk K W g σ Ex) (s : Step g g1) : XOk K W g1 σ Ex := fun c h g' s' => x c h g' (s.trans s')
theorem XOk.none : XOk K W g σ (fun _ => False) := fun _ h => h.elim
theorem de_var (i : Nat) {x : Str} {pos : Pos} (hN : X.N[i]? = some x := by rfl) (hv : Vis X.env.scope x := by first | exact Or.inl rfl | exact Or.inr (Or.inl rfl) | exact Or.inr (Or.inr rfl)) (hd : (x == ("__debug__" : Str)) = false := by decide)
    (hcd : (x == ("__classdict__" : Str)) = false := by decide) : DE X W g0 (.Name x pos) (dVar i) := by
  refine PE.imp (pe_var hN hv hd hcd) fun σ H Q h => ?_
  obtain ⟨g, ρ, P, Ex, rfl, s0, e, t, q, x⟩ := h
  unfold dVar at t
  split at t
  · rename_i d hd
    obtain ⟨v, h1, h2⟩ := e.fz i d hd
    exact ⟨v, h1, q d t v g (Step.refl s0.ok) h2⟩
  · exact t.elim
theorem de_int {i j pos} : DE X W g0 (.Constant (.int i) j pos) (dC (.int i)) := PE.imp pe_int fun σ H Q ⟨g, ρ, P, Ex, e, s0, _, t, q, _⟩ => by
  subst e; exact q _ t _ g (Step.refl s0.ok) (.int i)
theorem de_bl {b j pos} : DE X W g0 (.Constant (.bool b) j pos) (dC (.bl b)) := PE.imp pe_bl fun σ H Q ⟨g, ρ, P, Ex, e, s0, _, t, q, _⟩ => by
  subst e; exact q _ t _ g (Step.refl s0.ok) (.bl b)
theorem de_non {j pos} : DE X W g0 (.Constant .none j pos) (dC .non) := PE.imp pe_non fun σ H Q ⟨g, ρ, P, Ex, e, s0, _, t, q, _⟩ => by
  subst e; exact q _ t _ g (Step.refl s0.ok) .non
theorem de_str {x j pos} : DE X W g0 (.Constant (.str x) j pos) (dC (.str x)) := PE.imp pe_str fun σ H Q ⟨g, ρ, P, Ex, e, s0, _, t, q, _⟩ => by
  subst e; exact q _ t _ g (Step.refl s0.ok) (.str x)
/-- a constant of the module -/
theorem de_glob {x : Str} {v : V} {u : Value} {d : D} {pos : Pos} (hm : X.mg x = some u) (r : RelV v u) (rd : ∀ g, Rep X.K g v d) (hg : Gl X x := by rfl) (hd : (x == ("__debug__" : Str)) = false := by decide) : DE X W g0 (.Name x pos) (dC d) :=
  PE.imp (pe_glob hg hm r hd) fun σ H Q ⟨g, ρ, P, Ex, e, s0, _, t, q, _⟩ => by
    subst e; exact q _ t _ g (Step.refl s0.ok) (rd g)

/-! ### operations on values -/
/-- what an operation's rule asks is had from data -/
def Rel2 (K : PySem.W.Frag) (r : R2) (f : D → D → (D → Prop) → Prop) : Prop := ∀ (g0 g : Gh) (x y : V) (a b : D) (P : D → Prop) (Q : VK), Step g0 g → Rep K g x a → Rep K g y b → f a b P → (∀ d, P d → ∀ v g', Step g g' → Rep K g' v d → Q v g'.H) → r x y g.H Q
theorem Rel2.or {r r' : R2} {f f' : D → D → (D → Prop) → Prop} (h : Rel2 K r f) (h' : Rel2 K r' f') : Rel2 K (fun x y H Q => r x y H Q ∨ r' x y H Q) (fun a b P => f a b P ∨ f' a b P) :=
  fun g0 g x y a b P Q s rx ry w q => w.elim (fun w => .inl (h g0 g x y a b P Q s rx ry w q)) (fun w => .inr (h' g0 g x y a b P Q s rx ry w q))
@[simp] def dOp (f : D → D → (D → Prop) → Prop) (ta tb : DT) : DT := fun ρ P Ex => ta ρ (fun x => tb ρ (fun y => f x y P) Ex) Ex
theorem lift2 {r : R2} {f : D → D → (D → Prop) → Prop} (hr : Rel2 X.K r f) {ta tb : DT} {σ : L2.St} {H : Hp} {Q : VK} (h : lift X.K W g0 (dOp f ta tb) σ H Q) : tOp r (lift X.K W g0 ta) (lift X.K W g0 tb) σ H Q := by
  obtain ⟨g, ρ, P, Ex, rfl, s0, e, t, q, x⟩ := h
  refine ⟨g, ρ, _, Ex, rfl, s0, e, t, fun a ha v g1 s1 r1 => ?_, x⟩
  refine ⟨g1, ρ, _, Ex, rfl, s0.trans s1, e.step s1, ha, fun b hb u g2 s2 r2 => ?_, x.step s1⟩
  exact hr g0 g2 v u a b P Q (s0.trans (s1.trans s2)) (r1.step s2) r2 hb fun d hd w g3 s3 r3 => q d hd w g3 (s1.trans (s2.trans s3)) r3
theorem de_op {op : Operator} {r : R2} {f : D → D → (D → Prop) → Prop} {a b : Expr} {ta tb : DT} {pos : Pos} (ho : OpR X (binaryOp op) r) (hr : Rel2 X.K r f) (ha : DE X W g0 a ta) (hb : DE X W g0 b tb) : DE X W g0 (.BinOp a op b pos) (dOp f ta tb) :=
  PE.imp (pe_op ho ha hb) fun σ H Q h => lift2 hr h
theorem de_cmp {op : CmpOp} {r : R2} {f : D → D → (D → Prop) → Prop} {a b : Expr} {ta tb : DT} {pos : Pos} (ho : OpR X (compareOp op) r) (hr : Rel2 X.K r f) (ha : DE X W g0 a ta) (hb : DE X W g0 b tb) (hm : behindInMarks op b = false) : DE X W g0 (.Compare a [op] [b] pos) (dOp f ta tb) :=
  PE.imp (pe_cmpR ho ha hb hm) fun σ H Q h => lift2 hr h
/-- a bool's value -/
@[simp] def onB (P : Bool → Prop) : D → Prop
  | .bl b => P b
  | _ => False
theorem onB.out {P : Bool → Prop} {d : D} (h : onB P d) : ∃ b, d = .bl b ∧ P b := by
  cases d with
  | bl b => exact ⟨b, rfl, h⟩
  | _ => exact h.elim
@[simp] def dTest (t : DT) : DB := fun ρ P Ex => t ρ (onB P) Ex
theorem lift_test {t : DT} {σ : L2.St} {H : Hp} {Q : Bool → Hp → Prop} (h : liftB X.K W g0 (dTest t) σ H Q) : lift X.K W g0 t σ H fun x H' => ∃ k, x = .bl k ∧ Q k H' := by
  obtain ⟨g, ρ, P, Ex, rfl, s0, e, t, q, x⟩ := h
  refine ⟨g, ρ, _, Ex, rfl, s0, e, t, fun d hd v g1 s1 r1 => ?_, x⟩
  obtain ⟨b, rfl, hb⟩ := hd.out
  cases r1
  exact ⟨b, rfl, q b hb g1 s1⟩
theorem dt_cmp {op : CmpOp} {r : R2} {f : D → D → (D → Prop) → Prop} {a b : Expr} {ta tb : DT} {pos : Pos} (ho : OpR X (compareOp op) r) (hr : Rel2 X.K r f) (ha : DE X W g0 a ta) (hb : DE X W g0 b tb) (hm : behindInMarks op b = false) :
    DTt X W g0 (.Compare a [op] [b] pos) (dTest (dOp f ta tb)) :=
  PT.imp (pt_cmpR ho ha hb hm) fun σ H Q h => lift2 hr (lift_test h)
theorem dt_val {e : Expr} {t : DT} (h : DE X W g0 e t) (he : ∀ whole, isTrue e X.env whole = (do let v ← whole; standAt e.pos; holding [v] (truthy v)) := by intro _; rfl) : DTt X W g0 e (dTest t) :=
  PT.imp (pt_val h he) fun σ H Q h => lift_test h
/-- a op1 b op2 c -/
@[simp] def dChain (f f' : D → D → (D → Prop) → Prop) (ta tb tc : DT) : DT := fun ρ P Ex => ta ρ (fun x => tb ρ (fun y => f x y (onB fun k => if k = true then tc ρ (fun z => f' y z P) Ex else P (.bl false))) Ex) Ex
theorem lift_chain {r r' : R2} {f f' : D → D → (D → Prop) → Prop} (hr : Rel2 X.K r f) (hr' : Rel2 X.K r' f') {ta tb tc : DT} {σ : L2.St} {H : Hp} {Q : VK} (h : lift X.K W g0 (dChain f f' ta tb tc) σ H Q) :
    tChain r r' (lift X.K W g0 ta) (lift X.K W g0 tb) (lift X.K W g0 tc) σ H Q := by
  obtain ⟨g, ρ, P, Ex, rfl, s0, e, t, q, x⟩ := h
  refine ⟨g, ρ, _, Ex, rfl, s0, e, t, fun a ha v g1 s1 r1 => ?_, x⟩
  refine ⟨g1, ρ, _, Ex, rfl, s0.trans s1, e.step s1, ha, fun b hb u g2 s2 r2 => ?_, x.step s1⟩
  refine hr g0 g2 v u a b _ _ (s0.trans (s1.trans s2)) (r1.step s2) r2 hb fun d hd w g3 s3 r3 => ?_
  obtain ⟨k, rfl, hk⟩ := hd.out
  cases r3
  refine ⟨k, rfl, ?_⟩
  cases k with
  | true =>
    rw [if_pos rfl] at hk ⊢
    refine ⟨g3, ρ, _, Ex, rfl, s0.trans (s1.trans (s2.trans s3)), e.step (s1.trans (s2.trans s3)), hk, fun c hc z g4 s4 r4 => ?_, x.step (s1.trans (s2.trans s3))⟩
    exact hr' g0 g4 u z b c P Q (s0.trans (s1.trans (s2.trans (s3.trans s4)))) (r2.step (s3.trans s4)) r4 hc fun d hd w g5 s5 r5 => q d hd w g5 (s1.trans (s2.trans (s3.trans (s4.trans s5)))) r5
  | false =>
    rw [if_neg Bool.false_ne_true] at hk ⊢
    exact q _ hk _ g3 (s1.trans (s2.trans s3)) (.bl false)
theorem de_chain {op op' : CmpOp} {r r' : R2} {f f' : D → D → (D → Prop) → Prop} {a b c : Expr} {ta tb tc : DT} {pos : Pos} (ho : OpR X (compareOp op) r) (hr : Rel2 X.K r f) (ho' : OpR X (compareOp op') r') (hr' : Rel2 X.K r' f') (ha : DE X W g0 a ta) (hb : DE X W g0 b tb) (hc : DE X W g0 c tc)
    (hm : lastMarks [op, op'] [b, c] = false := by with_unfolding_all rfl) : DE X W g0 (.Compare a [op, op'] [b, c] pos) (dChain f f' ta tb tc) :=
  PE.imp (pe_chain ho ho' ha hb hc hm) fun σ H Q h => lift_chain hr hr' h
theorem dt_chain {op op' : CmpOp} {r r' : R2} {f f' : D → D → (D → Prop) → Prop} {a b c : Expr} {ta tb tc : DT} {pos : Pos} (ho : OpR X (compareOp op) r) (hr : Rel2 X.K r f) (ho' : OpR X (compareOp op') r') (hr' : Rel2 X.K r' f') (ha : DE X W g0 a ta) (hb : DE X W g0 b tb) (hc : DE X W g0 c tc)
    (hm : lastMarks [op, op'] [b, c] = false := by with_unfolding_all rfl) : DTt X W g0 (.Compare a [op, op'] [b, c] pos) (dTest (dChain f f' ta tb tc)) :=
  PT.imp (pt_chain ho ho' ha hb hc hm) fun σ H Q h => lift_chain hr hr' (lift_test h)

/-! ### and, or, not, if -/
@[simp] def dAnd (t u : DB) : DB := fun ρ P Ex => t ρ (fun c => if c = true then u ρ P Ex else P false) Ex
@[simp] def dOr (t u : DB) : DB := fun ρ P Ex => t ρ (fun c => if c = true then P true else u ρ P Ex) Ex
@[simp] def dNot (t : DB) : DB := fun ρ P Ex => t ρ (fun c => P (!c)) Ex
abbrev DW (X : Cx) (W : WX) (g0 : Gh) (e : Expr) (t : DB) : Prop := PW X e (liftB X.K W g0 t)
theorem PW.imp {X : Cx} {e : Expr} {t t' : TT} (h : PW X e t) (i : ∀ σ H Q, t' σ H Q → t σ H Q) : PW X e t' := ⟨fun wh pins s σ H Q I w => h.run wh pins s σ H Q I (i _ _ _ w)⟩
section
variable {a b e c : Expr} {rest : List Expr} {t u : DB} {ta tb : DT} {pos : Pos}
theorem dw_and1 (ha : DTt X W g0 a t) : DW X W g0 (.BoolOp .And [a] pos) t := pw_and1 ha
theorem dw_or1 (ha : DTt X W g0 a t) : DW X W g0 (.BoolOp .Or [a] pos) t := pw_or1 ha
theorem dw_and (ha : DTt X W g0 a t) (hb : DW X W g0 (.BoolOp .And (b :: rest) pos) u) : DW X W g0 (.BoolOp .And (a :: b :: rest) pos) (dAnd t u) :=
  PW.imp (pw_and ha hb) fun σ H Q h => by
    obtain ⟨g, ρ, P, Ex, rfl, s0, e, t, q, x⟩ := h
    refine ⟨g, ρ, _, Ex, rfl, s0, e, t, fun k hk g1 s1 => ?_, x⟩
    cases k with
    | true =>
      rw [if_pos rfl] at hk ⊢
      exact ⟨g1, ρ, P, Ex, rfl, s0.trans s1, e.step s1, hk, fun d hd g2 s2 => q d hd g2 (s1.trans s2), x.step s1⟩
    | false =>
      rw [if_neg Bool.false_ne_true] at hk ⊢
      exact q _ hk g1 s1
theorem dw_or (ha : DTt X W g0 a t) (hb : DW X W g0 (.BoolOp .Or (b :: rest) pos) u) : DW X W g0 (.BoolOp .Or (a :: b :: rest) pos) (dOr t u) :=
  PW.imp (pw_or ha hb) fun σ H Q h => by
    obtain ⟨g, ρ, P, Ex, rfl, s0, e, t, q, x⟩ := h
    refine ⟨g, ρ, _, Ex, rfl, s0, e, t, fun k hk g1 s1 => ?_, x⟩
    cases k with
    | true =>
      rw [if_pos rfl] at hk ⊢
      exact q _ hk g1 s1
    | false =>
      rw [if_neg Bool.false_ne_true] at hk ⊢
      exact ⟨g1, ρ, P, Ex, rfl, s0.trans s1, e.step s1, hk, fun d hd g2 s2 => q d hd g2 (s1.trans s2), x.step s1⟩
theorem dt_w (h : DW X W g0 e t) : DTt X W g0 e t := h.pt
theorem dt_not (ha : DTt X W g0 a t) : DTt X W g0 (.UnaryOp .Not a pos) (dNot t) :=
  PT.imp (pt_not ha) fun σ H Q h => by
    obtain ⟨g, ρ, P, Ex, rfl, s0, e, t, q, x⟩ := h
    exact ⟨g, ρ, _, Ex, rfl, s0, e, t, fun k hk g1 s1 => q _ hk g1 s1, x⟩
/-- as values -/
@[simp] def dAndV (t u : DT) : DT := fun ρ P Ex => t ρ (onB fun c => if c = true then u ρ P Ex else P (.bl false)) Ex
@[simp] def dOrV (t u : DT) : DT := fun ρ P Ex => t ρ (onB fun c => if c = true then P (.bl true) else u ρ P Ex) Ex
@[simp] def dNotV (t : DT) : DT := fun ρ P Ex => t ρ (onB fun c => P (.bl (!c))) Ex
theorem de_one {op} (h : DE X W g0 a ta) : DE X W g0 (.BoolOp op [a] pos) ta := pe_one h
theorem de_and (ha : DE X W g0 a ta) (hb : DE X W g0 (.BoolOp .And (b :: rest) pos) tb) : DE X W g0 (.BoolOp .And (a :: b :: rest) pos) (dAndV ta tb) :=
  PE.imp (pe_and ha hb) fun σ H Q h => by
    obtain ⟨g, ρ, P, Ex, rfl, s0, e, t, q, x⟩ := h
    refine ⟨g, ρ, _, Ex, rfl, s0, e, t, fun d hd v g1 s1 r1 => ?_, x⟩
    obtain ⟨k, rfl, hk⟩ := hd.out
    cases r1
    refine ⟨k, rfl, ?_⟩
    cases k with
    | true =>
      rw [if_pos rfl] at hk ⊢
      exact ⟨g1, ρ, P, Ex, rfl, s0.trans s1, e.step s1, hk, fun d hd v g2 s2 r2 => q d hd v g2 (s1.trans s2) r2, x.step s1⟩
    | false =>
      rw [if_neg Bool.false_ne_true] at hk ⊢
      exact q _ hk _ g1 s1 (.bl false)
theorem de_or (ha : DE X W g0 a ta) (hb : DE X W g0 (.BoolOp .Or (b :: rest) pos) tb) : DE X W g0 (.BoolOp .Or (a :: b :: rest) pos) (dOrV ta tb) :=
  PE.imp (pe_or ha hb) fun σ H Q h => by
    obtain ⟨g, ρ, P, Ex, rfl, s0, e, t, q, x⟩ := h
    refine ⟨g, ρ, _, Ex, rfl, s0, e, t, fun d hd v g1 s1 r1 => ?_, x⟩
    obtain ⟨k, rfl, hk⟩ := hd.out
    cases r1
    refine ⟨k, rfl, ?_⟩
    cases k with
    | true =>
      rw [if_pos rfl] at hk ⊢
      exact q _ hk _ g1 s1 (.bl true)
    | false =>
      rw [if_neg Bool.false_ne_true] at hk ⊢
      exact ⟨g1, ρ, P, Ex, rfl, s0.trans s1, e.step s1, hk, fun d hd v g2 s2 r2 => q d hd v g2 (s1.trans s2) r2, x.step s1⟩
theorem de_not (ha : DE X W g0 a ta) : DE X W g0 (.UnaryOp .Not a pos) (dNotV ta) :=
  PE.imp (pe_not ha) fun σ H Q h => by
    obtain ⟨g, ρ, P, Ex, rfl, s0, e, t, q, x⟩ := h
    refine ⟨g, ρ, _, Ex, rfl, s0, e, t, fun d hd v g1 s1 r1 => ?_, x⟩
    obtain ⟨k, rfl, hk⟩ := hd.out
    cases r1
    exact ⟨k, rfl, q _ hk _ g1 s1 (.bl _)⟩
@[simp] def dIf (c : DB) (t u : DT) : DT := fun ρ P Ex => c ρ (fun k => if k = true then t ρ P Ex else u ρ P Ex) Ex
theorem de_ifExp {tc : DB} (hc : DTt X W g0 c tc) (ha : DE X W g0 a ta) (hb : DE X W g0 b tb) : DE X W g0 (.IfExp c a b pos) (dIf tc ta tb) :=
  PE.imp (pe_ifExp hc ha hb) fun σ H Q h => by
    obtain ⟨g, ρ, P, Ex, rfl, s0, e, t, q, x⟩ := h
    refine ⟨g, ρ, _, Ex, rfl, s0, e, t, fun k hk g1 s1 => ?_, x⟩
    cases k with
    | true =>
      rw [if_pos rfl] at hk ⊢
      exact ⟨g1, ρ, P, Ex, rfl, s0.trans s1, e.step s1, hk, fun d hd v g2 s2 r2 => q d hd v g2 (s1.trans s2) r2, x.step s1⟩
    | false =>
      rw [if_neg Bool.false_ne_true] at hk ⊢
      exact ⟨g1, ρ, P, Ex, rfl, s0.trans s1, e.step s1, hk, fun d hd v g2 s2 r2 => q d hd v g2 (s1.trans s2) r2, x.step s1⟩
end

/-! ### arguments, displays -/
@[simp] def dNil : DA := fun _ P _ => P []
@[simp] def dCons (t : DT) (r : DA) : DA := fun ρ P Ex => t ρ (fun d => r ρ (fun ds => P (d :: ds)) Ex) Ex
section
variable {e : Expr} {es : List Expr} {t : DT} {ts : DA} {pos : Pos}
theorem da_nil : DPA X W g0 [] dNil := PA.imp pa_nil fun σ H Q ⟨g, ρ, P, Ex, e, s0, _, t, q, _⟩ => by
  subst e; exact q _ t _ g (Step.refl s0.ok) .nil
theorem da_cons (ha : DE X W g0 e t) (hr : DPA X W g0 es ts) (hs : starEach (e :: es) X.env = (false, eval e X.env) :: starEach es X.env := by rfl) : DPA X W g0 (e :: es) (dCons t ts) :=
  PA.imp (pa_cons ha hr hs) fun σ H Q h => by
    obtain ⟨g, ρ, P, Ex, rfl, s0, e, t, q, x⟩ := h
    refine ⟨g, ρ, _, Ex, rfl, s0, e, t, fun d hd v g1 s1 r1 => ?_, x⟩
    exact ⟨g1, ρ, _, Ex, rfl, s0.trans s1, e.step s1, hd, fun ds hds vs g2 s2 r2 => q _ hds _ g2 (s1.trans s2) (.cons (r1.step s2) r2), x.step s1⟩
@[simp] def dTup (ts : DA) : DT := fun ρ P Ex => ts ρ (fun ds => ds.length ≤ 16777216 ∧ P (.tup ds)) Ex
@[simp] def dLst (ts : DA) : DT := fun ρ P Ex => ts ρ (fun ds => ds.length ≤ 16777216 ∧ P (.lst ds)) Ex
theorem newTup {K : PySem.W.Frag} {g : Gh} (h : Hold g) {p : Addr} {vs : List V} {ds : List D} (e : g.H p = none) (r : Reps K g vs ds) : Step g (g.new p (.tup vs)) ∧ Rep K (g.new p (.tup vs)) (.ref p) (.tup ds) := by
  have s := h.new (.tup vs) e
  exact ⟨s, .tup (TpAt.of (K := K) (show upd g.G p (.tup vs) p = some _ from upd_same)) (r.step s)⟩
theorem newLst {K : PySem.W.Frag} {g : Gh} (h : Hold g) {p : Addr} {vs : List V} {ds : List D} (e : g.H p = none) (r : Reps K g vs ds) : Step g (g.new p (.lst vs)) ∧ Rep K (g.new p (.lst vs)) (.ref p) (.lst ds) := by
  have s := h.new (.lst vs) e
  exact ⟨s, .lst (show upd g.G p (.lst vs) p = some _ from upd_same) (r.step s)⟩
theorem n0_of {g0 g : Gh} (s : Step g0 g) {p : Addr} (e : g.H p = none) : g0.H p = none := s.none e
theorem ownLst {K : PySem.W.Frag} {g0 g : Gh} (s0 : Step g0 g) {p : Addr} {vs : List V} {ds : List D} (e : g.H p = none) (r : Reps K g vs ds) : Step g (g.own p (.lst vs)) ∧ Own K g0 (g.own p (.lst vs)) p (.lst ds) := by
  have s := s0.ok.own (.lst vs) e
  exact ⟨s, n0_of s0 e, s0.ok.free e, s0.ok.notM e, vs, upd_same, r.step s⟩
theorem de_tup {k} (h : DPA X W g0 es ts) : DE X W g0 (.Tuple es k pos) (dTup ts) :=
  PE.imp (pe_tup h) fun σ H Q h => by
    obtain ⟨g, ρ, P, Ex, rfl, s0, e, t, q, x⟩ := h
    refine ⟨g, ρ, _, Ex, rfl, s0, e, t, fun ds hd vs g1 s1 r1 => ?_, x⟩
    obtain ⟨hz, hp⟩ := hd
    refine ⟨by rw [r1.length, sizeLine_eq]; exact hz, fun p hpn => ?_⟩
    obtain ⟨s2, r2⟩ := newTup s1.ok hpn r1
    exact q _ hp _ _ (s1.trans s2) r2
theorem de_lst (h : DPA X W g0 es ts) : DE X W g0 (.List es pos) (dLst ts) :=
  PE.imp (pe_lst h) fun σ H Q h => by
    obtain ⟨g, ρ, P, Ex, rfl, s0, e, t, q, x⟩ := h
    refine ⟨g, ρ, _, Ex, rfl, s0, e, t, fun ds hd vs g1 s1 r1 => ?_, x⟩
    obtain ⟨hz, hp⟩ := hd
    refine ⟨by rw [r1.length, sizeLine_eq]; exact hz, fun p hpn => ?_⟩
    obtain ⟨s2, r2⟩ := newLst s1.ok hpn r1
    exact q _ hp _ _ (s1.trans s2) r2
theorem df_lst (h : DPA X W g0 es ts) : DF X W g0 (.List es pos) (dLst ts) :=
  PE.imp (pe_lst h) fun σ H Q h => by
    obtain ⟨g, ρ, P, Ex, rfl, s0, e, t, q, x⟩ := h
    refine ⟨g, ρ, _, Ex, rfl, s0, e, t, fun ds hd vs g1 s1 r1 => ?_, x⟩
    obtain ⟨hz, hp⟩ := hd
    refine ⟨by rw [r1.length, sizeLine_eq]; exact hz, fun p hpn => ?_⟩
    obtain ⟨s2, r2⟩ := ownLst (s0.trans s1) hpn r1
    exact q _ hp p _ (s1.trans s2) (s1.none hpn) r2
end
end

/-! ### statements -/
structure EndsD where
  nx : Rho → Prop
  rt : D → Prop
  bk : Rho → Prop
  ct : Rho → Prop
  ex : Rho → Str → Prop
abbrev DS := Rho → EndsD → Prop
/-- the wishes over data give the wishes over the heap -/
structure Lk (K : PySem.W.Frag) (W : WX) (g0 : Gh) (k : EndsD) (E : Ends) : Prop where
  nx : ∀ ρ σ g, Step g0 g → EnvOk K g0 g ρ σ → k.nx ρ → E.nx σ g.H
  rt : ∀ d v g, Step g0 g → Rep K g v d → k.rt d → E.rt v g.H
  bk : ∀ ρ σ g, Step g0 g → EnvOk K g0 g ρ σ → k.bk ρ → E.bk σ g.H
  ct : ∀ ρ σ g, Step g0 g → EnvOk K g0 g ρ σ → k.ct ρ → E.ct σ g.H
  ex : ∀ ρ c σ g, Step g0 g → EnvOk K g0 g ρ σ → k.ex ρ c → W (.ref (He.ga K c)) none σ g.H
def liftS (K : PySem.W.Frag) (W : WX) (g0 : Gh) (t : DS) : TS := fun E σ H => ∃ (g : Gh) (ρ : Rho) (k : EndsD), g.H = H ∧ Step g0 g ∧ EnvOk K g0 g ρ σ ∧ t ρ k ∧ Lk K W g0 k E
abbrev DP (X : Cx) (W : WX) (g0 : Gh) (s : Stmt) (t : DS) : Prop := PS X s (liftS X.K W g0 t)
abbrev DPs (X : Cx) (W : WX) (g0 : Gh) (s : List Stmt) (t : DS) : Prop := PSs X s (liftS X.K W g0 t)
theorem Lk.xok {K : PySem.W.Frag} {W : WX} {g0 g : Gh} {k : EndsD} {E : Ends} (l : Lk K W g0 k E) (s0 : Step g0 g) {ρ : Rho} {σ : L2.St} (e : EnvOk K g0 g ρ σ) : XOk K W g σ (k.ex ρ) := fun c h g' s => l.ex ρ c σ g' (s0.trans s) (e.step s) h
@[simp] def dNext : DS := fun ρ k => k.nx ρ
@[simp] def dSeq (t u : DS) : DS := fun ρ k => t ρ { k with nx := fun ρ' => u ρ' k }
@[simp] def dNever : DS := fun _ _ => False
@[simp] def dRet (t : DT) : DS := fun ρ k => t ρ k.rt (k.ex ρ)
@[simp] def dDrop (t : DT) : DS := fun ρ k => t ρ (fun _ => k.nx ρ) (k.ex ρ)
@[simp] def dIfS (c : DB) (t u : DS) : DS := fun ρ k => c ρ (fun b => if b = true then t ρ k else u ρ k) (k.ex ρ)
@[simp] def dSet (i : Nat) (t : DT) : DS := fun ρ k => t ρ (fun d => k.nx (ρ.set i (.fz d))) (k.ex ρ)
@[simp] def dOwn (i : Nat) (t : DT) : DS := fun ρ k => t ρ (fun d => k.nx (ρ.set i (.ow d))) (k.ex ρ)
section
variable {X : Cx} {W : WX} {g0 : Gh} {st : Stmt} {rest : List Stmt} {t u : DS} {e : Expr} {te : DT} {pos : Pos}
theorem dp_nil : DPs X W g0 [] dNext := PSs.imp pss_nil fun E σ H h => by
  obtain ⟨g, ρ, k, rfl, s0, e, t, l⟩ := h
  exact l.nx ρ σ g s0 e t
theorem dp_cons (h1 : DP X W g0 st t) (h2 : DPs X W g0 rest u) : DPs X W g0 (st :: rest) (dSeq t u) := PSs.imp (pss_cons h1 h2) fun E σ H h => by
  obtain ⟨g, ρ, k, rfl, s0, e, t, l⟩ := h
  exact ⟨g, ρ, _, rfl, s0, e, t, ⟨fun ρ' σ' g' s' e' w => ⟨g', ρ', k, rfl, s', e', w, l⟩, l.rt, l.bk, l.ct, l.ex⟩⟩
theorem dp_one (h1 : DP X W g0 st t) : DPs X W g0 [st] t := pss_one h1
theorem dp_never : DP X W g0 st dNever := PS.imp ps_never fun E σ H h => by
  obtain ⟨g, ρ, k, rfl, s0, e, t, l⟩ := h
  exact t
theorem dps_never : DPs X W g0 rest dNever := PSs.imp pss_never fun E σ H h => by
  obtain ⟨g, ρ, k, rfl, s0, e, t, l⟩ := h
  exact t
theorem dp_pass : DP X W g0 (.Pass pos) dNext := PS.imp ps_pass fun E σ H h => by
  obtain ⟨g, ρ, k, rfl, s0, e, t, l⟩ := h
  exact l.nx ρ σ g s0 e t
theorem dp_ret (he : DE X W g0 e te) : DP X W g0 (.Return (some e) pos) (dRet te) := PS.imp (ps_ret he) fun E σ H h => by
  obtain ⟨g, ρ, k, rfl, s0, e, t, l⟩ := h
  exact ⟨g, ρ, _, _, rfl, s0, e, t, fun d hd v g' s r => l.rt d v g' (s0.trans s) r hd, l.xok s0 e⟩
theorem dp_expr (he : DE X W g0 e te) (hs : swapsWith e none pos.line X.env = pure false := by rfl) : DP X W g0 (.Expr e pos) (dDrop te) := PS.imp (ps_expr he hs) fun E σ H h => by
  obtain ⟨g, ρ, k, rfl, s0, e, t, l⟩ := h
  exact ⟨g, ρ, _, _, rfl, s0, e, t, fun d hd v g' s r => l.nx ρ σ g' (s0.trans s) (e.step s) hd, l.xok s0 e⟩
theorem dp_if {c : Expr} {a b : List Stmt} {tc : DB} (hc : DTt X W g0 c tc) (ha : DPs X W g0 a t) (hb : DPs X W g0 b u) : DP X W g0 (.If c a b pos) (dIfS tc t u) := PS.imp (ps_if hc ha hb) fun E σ H h => by
  obtain ⟨g, ρ, k, rfl, s0, e, t, l⟩ := h
  refine ⟨g, ρ, _, _, rfl, s0, e, t, fun b hb g' s => ?_, l.xok s0 e⟩
  cases b with
  | true =>
    rw [if_pos rfl] at hb ⊢
    exact ⟨g', ρ, k, rfl, s0.trans s, e.step s, hb, l⟩
  | false =>
    rw [if_neg Bool.false_ne_true] at hb ⊢
    exact ⟨g', ρ, k, rfl, s0.trans s, e.step s, hb, l⟩
/-! targets -/
abbrev DG := D → Rho → (Rho → Prop) → Prop
abbrev DGs := List D → Rho → (Rho → Prop) → Prop
/-- vs: the slots that the target may change -/
def liftG (K : PySem.W.Frag) (g0 : Gh) (vs : List Nat) (t : DG) : TG := fun v σ H Q => ∃ (g : Gh) (ρ : Rho) (d : D) (P : Rho → Prop), g.H = H ∧ Step g0 g ∧ EnvOk K g0 g ρ σ ∧ Rep K g v d ∧ t d ρ P ∧ ∀ ρ' σ', EnvOk K g0 g ρ' σ' → wipe σ' vs = wipe σ vs → P ρ' → Q σ' H
def liftGs (K : PySem.W.Frag) (g0 : Gh) (vs : List Nat) (t : DGs) : TGs := fun v σ H Q => ∃ (g : Gh) (ρ : Rho) (d : List D) (P : Rho → Prop), g.H = H ∧ Step g0 g ∧ EnvOk K g0 g ρ σ ∧ Reps K g v d ∧ t d ρ P ∧ ∀ ρ' σ', EnvOk K g0 g ρ' σ' → wipe σ' vs = wipe σ vs → P ρ' → Q σ' H
theorem wipe_get (σ : L2.St) : ∀ (vs : List Nat) (j : Nat), (wipe σ vs)[j]? = if j ∈ vs ∧ j < σ.length then some none else σ[j]?
  | [], j => by simp [wipe]
  | v :: vs, j => by
    show ((wipe σ vs).set v none)[j]? = _
    by_cases h : v = j
    · subst h
      by_cases hl : v < σ.length
      · rw [List.getElem?_set_self (by rw [wipe_length]; exact hl), if_pos ⟨List.mem_cons_self, hl⟩]
      · rw [List.getElem?_eq_none (by rw [List.length_set, wipe_length]; omega), if_neg (fun z => hl z.2), List.getElem?_eq_none (by omega)]
    · rw [List.getElem?_set_ne h, wipe_get σ vs j]
      have e : (j ∈ v :: vs) ↔ j ∈ vs := by
        rw [List.mem_cons]
        exact ⟨fun z => z.elim (fun q => absurd q.symm h) id, .inr⟩
      simp only [e]
theorem wipe_set {σ : L2.St} {vs : List Nat} {i : Nat} (h : i ∈ vs) (x : Option V) : wipe (σ.set i x) vs = wipe σ vs := by
  apply List.ext_getElem?
  intro j
  rw [wipe_get, wipe_get, List.length_set]
  by_cases hj : j ∈ vs ∧ j < σ.length
  · rw [if_pos hj, if_pos hj]
  · rw [if_neg hj, if_neg hj]
    by_cases e : i = j
    · subst e
      rw [List.getElem?_eq_none (by rw [List.length_set]; exact Nat.le_of_not_lt fun z => hj ⟨h, z⟩), List.getElem?_eq_none (Nat.le_of_not_lt fun z => hj ⟨h, z⟩)]
    · rw [List.getElem?_set_ne e]
theorem PG.imp {X : Cx} {e : Expr} {t t' : TG} (h : PG X e t) (i : ∀ v σ H Q, t' v σ H Q → t v σ H Q) : PG X e t' := ⟨fun pins s σ H v u Q I r w => h.run pins s σ H v u Q I r (i _ _ _ _ w)⟩
theorem PGs.imp {X : Cx} {e : List Expr} {t t' : TGs} (h : PGs X e t) (i : ∀ v σ H Q, t' v σ H Q → t v σ H Q) : PGs X e t' := ⟨fun pins s σ H v u Q I r w => h.run pins s σ H v u Q I r (i _ _ _ _ w)⟩
abbrev DPG (X : Cx) (g0 : Gh) (vs : List Nat) (e : Expr) (t : DG) : Prop := PG X e (liftG X.K g0 vs t)
abbrev DPGs (X : Cx) (g0 : Gh) (vs : List Nat) (e : List Expr) (t : DGs) : Prop := PGs X e (liftGs X.K g0 vs t)
@[simp] def dgN (i : Nat) : DG := fun d ρ Q => Q (ρ.set i (.fz d))
@[simp] def dgNil : DGs := fun ds ρ Q => match ds with
  | [] => Q ρ
  | _ => False
@[simp] def dgCons (t : DG) (r : DGs) : DGs := fun ds ρ Q => match ds with
  | d :: ds => t d ρ fun ρ' => r ds ρ' Q
  | _ => False
/-- a tuple's items -/
@[simp] def dgTup (t : DGs) : DG := fun d ρ Q => match d with
  | .tup ds => t ds ρ Q
  | _ => False
def dgLst (t : DGs) : DG := fun d ρ Q => match d with
  | .lst ds => t ds ρ Q
  | _ => False
/-- how many names a target list has -/
def DLen (t : DGs) (n : Nat) : Prop := ∀ ds ρ Q, t ds ρ Q → ds.length = n
theorem dlen_nil : DLen dgNil 0 := fun ds ρ Q h => by
  cases ds with
  | nil => rfl
  | cons _ _ => exact h.elim
theorem dlen_cons {t : DG} {r : DGs} {n : Nat} (ht : ∀ d ρ Q, t d ρ Q → ∃ ρ', Q ρ') (h : DLen r n) : DLen (dgCons t r) (n + 1) := fun ds ρ Q w => by
  cases ds with
  | nil => exact w.elim
  | cons d ds =>
    obtain ⟨ρ', w'⟩ := ht d ρ _ w
    rw [List.length_cons, h ds ρ' Q w']
def DLive (t : DG) : Prop := ∀ d ρ Q, t d ρ Q → ∃ ρ', Q ρ'
def DLives (t : DGs) : Prop := ∀ d ρ Q, t d ρ Q → ∃ ρ', Q ρ'
theorem live_n {i : Nat} : DLive (dgN i) := fun d ρ Q h => ⟨_, h⟩
theorem lives_nil : DLives dgNil := fun ds ρ Q h => by
  cases ds with
  | nil => exact ⟨_, h⟩
  | cons _ _ => exact h.elim
theorem lives_cons {t : DG} {r : DGs} (ht : DLive t) (hr : DLives r) : DLives (dgCons t r) := fun ds ρ Q h => by
  cases ds with
  | nil => exact h.elim
  | cons d ds =>
    obtain ⟨ρ', w⟩ := ht d ρ _ h
    exact hr ds ρ' Q w
theorem live_tup {t : DGs} (h : DLives t) : DLive (dgTup t) := fun d ρ Q w => by
  cases d with
  | tup ds => exact h ds ρ Q w
  | _ => exact w.elim
theorem dg_name {vs : List Nat} (i : Nat) {x : Str} (hN : X.N.Nodup) (hv : i ∈ vs := by decide) (hi : X.N[i]? = some x := by rfl) (hx : Loc X.env.scope x := by first | exact Or.inl rfl | exact Or.inr rfl) (hf : X.fn x = true ∨ X.env.scope.names.lookup x = some .local := by first | exact .inl rfl | exact .inr rfl | assumption) : DPG X g0 vs (.Name x pos) (dgN i) :=
  PG.imp (pg_name hN hi hx hf) fun v σ H Q h => by
    obtain ⟨g, ρ, d, P, rfl, s0, e, r, t, q⟩ := h
    exact q _ _ (e.set r i) (wipe_set hv _) t
theorem dgs_nil {vs : List Nat} : DPGs X g0 vs [] dgNil := PGs.imp pgs_nil fun v σ H Q h => by
  obtain ⟨g, ρ, d, P, rfl, s0, e, r, t, q⟩ := h
  cases r with
  | nil => exact ⟨rfl, q _ _ e rfl t⟩
  | cons _ _ => exact t.elim
theorem dgs_cons {sl : List Nat} {es : List Expr} {t : DG} {r : DGs} (h1 : DPG X g0 sl e t) (h2 : DPGs X g0 sl es r) (hs : (assignEach (e :: es) X.env).map (·.2) = assign e X.env :: (assignEach es X.env).map (·.2) := by rfl) : DPGs X g0 sl (e :: es) (dgCons t r) :=
  PGs.imp (pgs_cons h1 h2 hs) fun v σ H Q h => by
    obtain ⟨g, ρ, d, P, rfl, s0, e, r, t, q⟩ := h
    cases r with
    | nil => exact t.elim
    | cons r1 r2 =>
      rename_i v vs d ds
      exact ⟨v, vs, rfl, g, ρ, d, _, rfl, s0, e, r1, t, fun ρ' σ' e' z w => ⟨g, ρ', ds, P, rfl, s0, e', r2, w, fun ρ2 σ2 e2 z2 w2 => q ρ2 σ2 e2 (z2.trans z) w2⟩⟩
theorem dg_tup {sl : List Nat} {es : List Expr} {k : Nat} {t : DGs} {n : Nat} (hc : X.calm = true) (h : DPGs X g0 sl es t) (hl : DLen t n) (hn : (assignEach es X.env).length = n := by rfl) (hst : (assignEach es X.env).findIdx? (·.1) = none := by rfl) : DPG X g0 sl (.Tuple es k pos) (dgTup t) :=
  PG.imp (pg_tup hc h hn hst) fun v σ H Q h => by
    obtain ⟨g, ρ, d, P, rfl, s0, e, r, t, q⟩ := h
    cases r with
    | tup ha rs => exact ⟨_, _, rfl, s0.ok.sqT ha, rs.length.trans (hl _ _ _ t), g, ρ, _, P, rfl, s0, e, rs, t, q⟩
    | _ => exact t.elim
theorem dg_lst {sl : List Nat} {es : List Expr} {k : Nat} {t : DGs} {n : Nat} (hc : X.calm = true) (h : DPGs X g0 sl es t) (hl : DLen t n) (hn : (assignEach es X.env).length = n := by rfl) (hst : (assignEach es X.env).findIdx? (·.1) = none := by rfl) : DPG X g0 sl (.Tuple es k pos) (dgLst t) :=
  PG.imp (pg_lst hc h hn hst) fun v σ H Q h => by
    obtain ⟨g, ρ, d, P, rfl, s0, e, r, t, q⟩ := h
    cases r with
    | lst ha rs => exact ⟨_, _, rfl, SqL.of (s0.ok.lst ha), rs.length.trans (hl _ _ _ t), g, ρ, _, P, rfl, s0, e, rs, t, q⟩
    | _ => exact t.elim
/-- target = value -/
@[simp] def dAsg (t : DT) (gt : DG) : DS := fun ρ k => t ρ (fun d => gt d ρ k.nx) (k.ex ρ)
theorem dp_asg {sl : List Nat} {tg : Expr} {gt : DG} (he : DE X W g0 e te) (hg : DPG X g0 sl tg gt) (hs : swapsWithSole [tg] e pos.line X.env = pure false := by rfl) (hw : swappedStores [tg] e X.env = pure none := by rfl)
    (h1 : (assignEach [tg] X.env).map (·.2) = [assign tg X.env] := by rfl) : DP X W g0 (.Assign [tg] e pos) (dAsg te gt) := PS.imp (ps_asg he hg hs hw h1) fun E σ H h => by
  obtain ⟨g, ρ, k, rfl, s0, e, t, l⟩ := h
  refine ⟨g, ρ, _, _, rfl, s0, e, t, fun d hd v g' s r => ?_, l.xok s0 e⟩
  exact ⟨g', ρ, d, _, rfl, s0.trans s, e.step s, r, hd, fun ρ' σ' e' _ w => l.nx ρ' σ' g' (s0.trans s) e' w⟩
theorem dp_set (i : Nat) {x : Str} {pos' : Pos} (hN : X.N.Nodup) (he : DE X W g0 e te) (hi : X.N[i]? = some x := by rfl) (hx : Loc X.env.scope x := by first | exact Or.inl rfl | exact Or.inr rfl) (hs : swapsWith e (some (.Name x pos')) pos.line X.env = pure false := by rfl)
    (hf : X.fn x = true ∨ X.env.scope.names.lookup x = some .local := by first | exact .inl rfl | exact .inr rfl | assumption) : DP X W g0 (.Assign [.Name x pos'] e pos) (dSet i te) := PS.imp (ps_set hN hi hx he hs hf) fun E σ H h => by
  obtain ⟨g, ρ, k, rfl, s0, e, t, l⟩ := h
  exact ⟨g, ρ, _, _, rfl, s0, e, t, fun d hd v g' s r => l.nx _ _ g' (s0.trans s) ((e.step s).set r i) hd, l.xok s0 e⟩
/-- x = [], x = list(y) ..: what is new and x's own -/
theorem dp_own (i : Nat) {x : Str} {pos' : Pos} (hN : X.N.Nodup) (he : DF X W g0 e te) (hi : X.N[i]? = some x := by rfl) (hx : Loc X.env.scope x := by first | exact Or.inl rfl | exact Or.inr rfl) (hs : swapsWith e (some (.Name x pos')) pos.line X.env = pure false := by rfl)
    (hf : X.fn x = true ∨ X.env.scope.names.lookup x = some .local := by first | exact .inl rfl | exact .inr rfl | assumption) : DP X W g0 (.Assign [.Name x pos'] e pos) (dOwn i te) := PS.imp (ps_set hN hi hx he hs hf) fun E σ H h => by
  obtain ⟨g, ρ, k, rfl, s0, e, t, l⟩ := h
  refine ⟨g, ρ, _, _, rfl, s0, e, t, fun d hd p g' s hp o => l.nx _ _ g' (s0.trans s) ((e.step s).setOwn o i fun j x hj h1 h2 => ?_) hd, l.xok s0 e⟩
  obtain ⟨p', h3, o'⟩ := e.ow j x h1
  rw [h2] at h3
  cases h3
  obtain ⟨u, hu, _⟩ := OwnH.some o'.at_
  rw [hp] at hu
  cases hu
/-- what is one's own is given away: it doesn't change any more -/
@[simp] def dFz (i : Nat) (t : DS) : DS := fun ρ k => match ρ[i]? with
  | some (.ow d) => t (ρ.set i (.fz d)) k
  | _ => False
theorem Own.freeze {K : PySem.W.Frag} {g0 g : Gh} {p : Addr} {d : D} (s0 : Step g0 g) (o : Own K g0 g p d) : ∃ g', g'.H = g.H ∧ Step g0 g' ∧ Rep K g' (.ref p) d ∧ (∀ b u, g.G b = some u → g'.G b = some u) ∧ (∀ b ∈ g.M, b ∈ g'.M) ∧ (∀ b, b ≠ p → g'.G b = g.G b) ∧ g'.M = g.M := by
  obtain ⟨u, hu, nt⟩ := OwnH.some o.at_
  have gs : ∀ b w, g.G b = some w → upd g.G p u b = some w := fun b w h => by rw [upd_ne (ne_of_none h o.ng)]; exact h
  have hok : Hold ⟨upd g.G p u, g.M, g.H⟩ := by
    refine ⟨fun a w h => ?_, fun a hm => ?_, fun a hm => ?_⟩
    · have h' : upd g.G p u a = some w := h
      by_cases ha : a = p
      · subst ha
        rw [upd_same] at h'
        cases h'
        exact .inl hu
      · rw [upd_ne ha] at h'
        exact s0.ok.le a w h'
    · show upd g.G p u a = none
      have ha : a ≠ p := fun z => o.nm (z ▸ hm)
      rw [upd_ne ha]
      exact s0.ok.dis a hm
    · obtain ⟨l, ns, i, c, st, h1, h2, h3⟩ := s0.ok.mok a hm
      exact ⟨l, ns, i, c, st, h1, gs _ _ h2, h3⟩
  refine ⟨⟨upd g.G p u, g.M, g.H⟩, rfl, ⟨fun a w h => gs _ _ (s0.gs a w h), fun a w h => ?_, s0.ms, s0.mn, s0.hs, hok⟩, ?_, gs, fun _ h => h, fun b hb => upd_ne hb, rfl⟩
  · have h' : upd g.G p u a = some w := h
    by_cases ha : a = p
    · right; left; rw [ha]; exact o.n0
    · rw [upd_ne ha] at h'
      exact s0.gn a w h'
  · have at_ := o.at_
    cases d with
    | lst ds =>
      obtain ⟨vs, e, r⟩ := at_
      rw [e] at hu; cases hu
      exact .lst (show upd g.G p _ p = _ from upd_same) (r.up (g' := ⟨upd g.G p _, g.M, g.H⟩) gs fun _ h => h)
    | dS ds =>
      obtain ⟨vs, e, r⟩ := at_
      rw [e] at hu; cases hu
      exact .dS (show upd g.G p _ p = _ from upd_same) (r.up (g' := ⟨upd g.G p _, g.M, g.H⟩) gs fun _ h => h)
    | dT ds =>
      obtain ⟨vs, e, r⟩ := at_
      rw [e] at hu; cases hu
      exact .dT (show upd g.G p _ p = _ from upd_same) (r.up (g' := ⟨upd g.G p _, g.M, g.H⟩) gs fun _ h => h)
    | _ => exact at_.elim
theorem lift_fz {K : PySem.W.Frag} {i : Nat} {t : DS} {E : Ends} {σ : L2.St} {H : Hp} (h : liftS K W g0 (dFz i t) E σ H) : liftS K W g0 t E σ H := by
  obtain ⟨g, ρ, k, rfl, s0, e, w, l⟩ := h
  unfold dFz at w
  split at w
  · rename_i d hd
    obtain ⟨p, h1, o⟩ := e.ow i d hd
    obtain ⟨g', eh, s', r', gs, gm, go, em⟩ := o.freeze s0
    have e' : EnvOk K g0 g' (ρ.set i (.fz d)) σ := by
      have hi : i < ρ.length := (List.getElem?_eq_some_iff.mp hd).1
      have ne : ∀ (j : Nat) (x : D), (ρ.set i (.fz d))[j]? = some (.ow x) → i ≠ j := fun j x h hj => by
        subst hj
        rw [List.getElem?_set_self hi] at h; cases h
      refine ⟨by rw [List.length_set]; exact e.len, fun j x hx => ?_, fun j x hx => ?_, fun j m x y q hjm a1 a2 a3 a4 => ?_⟩
      · by_cases hj : i = j
        · subst hj
          rw [List.getElem?_set_self hi] at hx
          cases hx
          exact ⟨_, h1, r'⟩
        · rw [List.getElem?_set_ne hj] at hx
          obtain ⟨v, b1, b2⟩ := e.fz j x hx
          exact ⟨v, b1, b2.up gs gm⟩
      · have nj := ne j x hx
        rw [List.getElem?_set_ne nj] at hx
        obtain ⟨q, b1, b2⟩ := e.ow j x hx
        have hq : q ≠ p := fun z => e.ap i j d x p nj hd hx h1 (by rw [← z]; exact b1)
        refine ⟨q, b1, b2.n0, by rw [go q hq]; exact b2.ng, by rw [em]; exact b2.nm, ?_⟩
        have at_ := b2.at_
        cases x with
        | lst ds => obtain ⟨vs, z, r⟩ := at_; exact ⟨vs, by rw [eh]; exact z, r.up gs gm⟩
        | dS ds => obtain ⟨vs, z, r⟩ := at_; exact ⟨vs, by rw [eh]; exact z, r.up gs gm⟩
        | dT ds => obtain ⟨vs, z, r⟩ := at_; exact ⟨vs, by rw [eh]; exact z, r.up gs gm⟩
        | _ => exact at_.elim
      · have nj := ne j x a1
        have nk := ne m y a2
        rw [List.getElem?_set_ne nj] at a1
        rw [List.getElem?_set_ne nk] at a2
        exact e.ap j m x y q hjm a1 a2 a3 a4
    exact ⟨g', _, k, eh, s', e', w, l⟩
  · exact w.elim
theorem dp_fz (i : Nat) (h : DP X W g0 st t) : DP X W g0 st (dFz i t) := PS.imp h fun E σ H w => lift_fz w
end
end AU

/-! AuFn: what a def promises over data, its call, its body; raise, try; for, while. -/
namespace AU
open PySem L2 PySem.Spec PyProof.Rows

/-- what a def does with data: the wish for what it hands back, the wish for what it raises -/
abbrev Spec := List D → (D → Prop) → (Str → Prop) → Prop
def spD (K : PySem.W.Frag) (S : Spec) : Sp := fun vs H Q E => ∃ (g : Gh) (ds : List D) (P : D → Prop) (Ex : Str → Prop), g.H = H ∧ Hold g ∧ Reps K g vs ds ∧ S ds P Ex ∧
  (∀ d, P d → ∀ v g', Step g g' → Rep K g' v d → Q v g'.H) ∧ (∀ c, Ex c → ∀ g', Step g g' → E (.ref (He.ga K c)) none g'.H)
/-- the def that the module's name x stands for keeps S, by k levels -/
def Fn (P : Program) (w : World) (K : PySem.W.Frag) (mg : Str → Option Value) (base : Heap) (k : Nat) (x : Str) (S : Spec) : Prop :=
  ∃ (f : Addr) (fd : FuncData) (ps : List Str), FnOk P w K mg base (L2.CX P w) k f fd ps (spD K S) ∧ mg x = some (.ref f) ∧ PySem.W.keepIn K (.ref f) = true ∧ Binds K fd ps []
theorem Fn.mono {P : Program} {w : World} {K : PySem.W.Frag} {mg : Str → Option Value} {base : Heap} {j k : Nat} {x : Str} {S : Spec} (h : Fn P w K mg base j x S) (hk : j ≤ k) : Fn P w K mg base k x S := by
  obtain ⟨f, fd, ps, F, r⟩ := h
  exact ⟨f, fd, ps, F.mono hk, r⟩
theorem Fn.imp {P : Program} {w : World} {K : PySem.W.Frag} {mg : Str → Option Value} {base : Heap} {k : Nat} {x : Str} {S S' : Spec} (h : Fn P w K mg base k x S) (hs : ∀ ds P Ex, S' ds P Ex → S ds P Ex) : Fn P w K mg base k x S' := by
  obtain ⟨f, fd, ps, F, r⟩ := h
  refine ⟨f, fd, ps, F.imp fun vs H Q E q => ?_, r⟩
  obtain ⟨g, ds, P, Ex, e, h1, h2, h3, h4⟩ := q
  exact ⟨g, ds, P, Ex, e, h1, h2, hs _ _ _ h3, h4⟩

/-- where code stands: how exceptions are taken, the room -/
structure Cn (X : Cx) (W : WX) (k : Nat) : Prop where
  tk : Takes X W
  po : PassesOwn (model X.prog X.w) X.A X.env X.xe
  hr : Room k X.A
  cm : X.calm = true
  nd : X.N.Nodup
@[simp] def dCall (S : Spec) (ts : DA) : DT := fun ρ P Ex => ts ρ (fun ds => S ds P Ex) Ex
section
variable {X : Cx} {W : WX} {g0 : Gh} {k j : Nat} {S : Spec} {x : Str} {e : Expr} {es : List Expr} {ts : DA} {p pos : Pos}
theorem lift_call {ts : DA} {σ : L2.St} {H : Hp} {Q : VK} (h : lift X.K W g0 (dCall S ts) σ H Q) : tCallS (spD X.K S) (WE W) (liftA X.K W g0 ts) σ H Q := by
  obtain ⟨g, ρ, P, Ex, rfl, s0, e, t, q, x⟩ := h
  refine ⟨g, ρ, _, Ex, rfl, s0, e, t, fun ds hd vs g1 s1 r1 => ?_, x⟩
  exact ⟨g1, ds, P, Ex, rfl, s1.ok, r1, hd, fun d hd v g2 s2 r2 => q d hd v g2 (s1.trans s2) r2, fun c hc g2 s2 => x c hc g2 (s1.trans s2)⟩
theorem de_call (C : Cn X W k) (F : Fn X.prog X.w X.K X.mg X.base j x S) (hj : j ≤ k) (ha : DPA X W g0 (e :: es) ts) (hg : Gl X x := by rfl) (hdb : (x == ("__debug__" : Str)) = false := by decide)
    (he : starEach (e :: es) X.env = (false, eval e X.env) :: starEach es X.env := by rfl) (hpl : (backTo pos (starEach es X.env)).any (·.1) = false := by rfl) : DE X W g0 (.Call (.Name x p) (e :: es) [] pos) (dCall S ts) := by
  obtain ⟨f, fd, ps, F, hm, kp, hb⟩ := F
  exact PE.imp (pe_callS F (C.hr.mono hj) hg hm kp hb (fun σ => passAt C.tk σ) ha hdb he hpl) fun σ H Q h => lift_call h
/-- f() -/
theorem de_call0 (C : Cn X W k) (F : Fn X.prog X.w X.K X.mg X.base j x S) (hj : j ≤ k) (hg : Gl X x := by rfl) (hdb : (x == ("__debug__" : Str)) = false := by decide) : DE X W g0 (.Call (.Name x p) [] [] pos) (dCall S dNil) := by
  obtain ⟨f, fd, ps, F, hm, kp, hb⟩ := F
  refine ⟨fun pins s σ H Q I h => ?_⟩
  obtain ⟨g, ρ, P, Ex, rfl, s0, e, t, q, x⟩ := h
  refine wpAny_Call_Name_kw (ld_glob I hg hm ?_ hdb)
  exact PySem.W.callWith_K0 I.kIn kp (run_fnS (us := []) F (C.hr.mono hj) hb (passAt C.tk σ) I .nil ⟨g, [], P, Ex, rfl, s0.ok, .nil, t, q, x⟩)
end

/-! ### a def by its body -/
@[simp] def startD (n : Nat) (ds : List D) : Rho := ds.map Cell.fz ++ List.replicate (n - ds.length) Cell.un
theorem reps_start {K : PySem.W.Frag} {g : Gh} {N : List Str} {vs : List V} {ds : List D} (r : Reps K g vs ds) : EnvOk K g g (startD N.length ds) (L2.start N vs) := by
  have hl := r.length
  refine ⟨by unfold startD L2.start; rw [List.length_append, List.length_append, List.length_map, List.length_map, List.length_replicate, List.length_replicate, hl], fun i d h => ?_, fun i d h => ?_, fun i j d e p hij h1 h2 => ?_⟩
  · unfold startD at h
    by_cases hi : i < ds.length
    · rw [List.getElem?_append_left (by simpa using hi), List.getElem?_map] at h
      cases q : ds[i]? with
      | none => rw [q] at h; cases h
      | some x =>
        rw [q] at h
        have e : x = d := by simpa using h
        subst e
        obtain ⟨v, h1, h2⟩ := r.get q
        refine ⟨v, ?_, h2⟩
        unfold L2.start
        rw [List.getElem?_append_left (by simp; omega), List.getElem?_map, h1]
        rfl
    · rw [List.getElem?_append_right (by simpa using hi), List.getElem?_replicate] at h
      split at h <;> cases h
  all_goals
    have no : ∀ (i : Nat) (d : D), (startD N.length ds)[i]? ≠ some (.ow d) := fun i d h => by
      unfold startD at h
      by_cases hi : i < ds.length
      · rw [List.getElem?_append_left (by simpa using hi), List.getElem?_map] at h
        cases q : ds[i]? with
        | none => rw [q] at h; cases h
        | some x => rw [q] at h; cases h
      · rw [List.getElem?_append_right (by simpa using hi), List.getElem?_replicate] at h
        split at h <;> cases h
    exact (no _ _ (by assumption)).elim
/-- how a body ends -/
@[simp] abbrev endsOf (P : D → Prop) (Ex : Str → Prop) : EndsD := ⟨fun _ => P .non, P, fun _ => False, fun _ => False, fun _ c => Ex c⟩
/-- the context of a def's body -/
abbrev cxD (P : Program) (w : World) (K : PySem.W.Frag) (mg : Str → Option Value) (base : Heap) (N : List Str) (qual : Str) (scope : Scope) (f : Addr) (cdv : Value) (A : Around) (outer : List PySem.Env) (s : Shared) (H : Hp) (E : XK) : Cx :=
  cxOf (L2.CX P w) P w K mg base N qual scope f cdv A outer s H E
abbrev wxD (E : XK) : WX := fun cls d _ H => E cls d H
theorem fnD {P : Program} {w : World} {K : PySem.W.Frag} {mg : Str → Option Value} {base : Heap} {x qual : Str} {params : Arguments} {body : List Stmt} {scope : Scope} {f : Addr} {fd : FuncData} {N ps : List Str} {k : Nat} {S : Spec} {t : DS}
    (F : FunD K x qual params body scope [] [] f fd) (Sc : FnScope N ps scope)
    (hbody : ∀ (cdv : Value) (A : Around) (outer : List PySem.Env) (s : Shared) (H : Hp) (E : XK) (g0 : Gh), Cn (cxD P w K mg base N qual scope f cdv A outer s H E) (wxD E) k → DPs (cxD P w K mg base N qual scope f cdv A outer s H E) (wxD E) g0 body t)
    (len : ∀ ds Q Ex, S ds Q Ex → ds.length = ps.length) (spec : ∀ ds Q Ex, S ds Q Ex → t (startD N.length ds) (endsOf Q Ex)) : FnOk P w K mg base (L2.CX P w) (k + 1) f fd ps (spD K S) := by
  refine F.ok Sc (fun vs H Q E h => ?_) (fun cdv A outer s H vs Q E hr h => ?_)
  · obtain ⟨g, ds, Pd, Ex, _, _, r, h, _⟩ := h
    exact r.length.trans (len _ _ _ h)
  · obtain ⟨g, ds, Pd, Ex, rfl, hg, r, h, q, x⟩ := h
    have C : Cn (cxD P w K mg base N qual scope f cdv A outer s g.H E) (wxD E) k :=
      ⟨takes_of (X := cxD P w K mg base N qual scope f cdv A outer s g.H E) rfl rfl rfl rfl, passes_of (X := cxD P w K mg base N qual scope f cdv A outer s g.H E) rfl, hr, rfl, Sc.nd⟩
    refine ⟨_, hbody cdv A outer s g.H E g C, g, startD N.length ds, endsOf Pd Ex, rfl, Step.refl hg, reps_start r, spec _ _ _ h, ?_⟩
    exact ⟨fun ρ σ g' s' _ w => q _ w .non g' s' .non, fun d v g' s' r' w => q d w v g' s' r', fun _ _ _ _ _ z => z.elim, fun _ _ _ _ _ z => z.elim, fun ρ c σ g' s' _ w => x c w g' s'⟩
/-- .. as the module's name has it -/
theorem fn_mk {P : Program} {w : World} {K : PySem.W.Frag} {mg : Str → Option Value} {base : Heap} {x y qual : Str} {params : Arguments} {body : List Stmt} {scope : Scope} {f : Addr} {fd : FuncData} {ps : List Str} {k : Nat} {S : Spec}
    (F : FunD K x qual params body scope [] [] f fd) (ok : FnOk P w K mg base (L2.CX P w) k f fd ps (spD K S)) (hm : mg y = some (.ref f))
    (hb : ∀ (kV doc pm : Value) (an : Option Addr) (cdv ct : Value) (us : List Value), us.length = ps.length → bindArgs (PySem.W.fnOf x qual params body scope .none kV doc pm an cdv ct) ⟨us, []⟩ = pure (ps.zip us)) : Fn P w K mg base k y S :=
  ⟨f, fd, ps, ok, hm, F.kp, F.bindsN hb⟩

/-! ### raise -/
/-- X(), X an own exception class without own __init__ -/
theorem pmk_own0 {X : Cx} {C : Addr} {bmB : List Value} {B newId initId : String} {x : Str} {p pos : Pos} (F : ExcBaseFacts B newId initId bmB) (q : PySem.W.excIn X.K C bmB newId = true) (gC : X.mg x = some (.ref C))
    (kC : PySem.W.keepIn X.K (.ref C) = true) (r : Raises X (.ref C)) (hg : Gl X x) (hdb : (x == ("__debug__" : Str)) = false := by decide) :
    PMk X (.Call (.Name x p) [] [] pos) (fun σ H Q => Q (.ref C) none H) := by
  intro pins s σ H Q I h
  refine wpAny_Call_Name_kw (ld_glob I hg gC ?_ hdb)
  refine PySem.W.callWith_K0 I.kIn kC ?_
  obtain ⟨bm, N, nm, qn, bs, hdct, sn, sub, ab, col, dd, k0, k1, k2, k3, k5, mN, hC, hN, hni, T⟩ := exc_obj I.kIn q
  exact wpAny_call_exc_subT F T hC hN hni (fun h' e hm => mk_of I hm r h (I.hok.gone hm.new)) (Nat.zero_le _)
/-- x is an exception class of the text -/
structure XCls (K : PySem.W.Frag) (mg : Str → Option Value) (x : Str) : Prop where
  ok : PySem.W.excIn K (He.ga K x) He.veBase "ValueError.__new__" = true
  gl : mg x = some (.ref (He.ga K x))
  kp : PySem.W.keepIn K (.ref (He.ga K x)) = true
  sb : PySem.W.subIn K (.ref (He.ga K x)) (.type "BaseException") = some true
  ty : PySem.W.typeIn K (.ref (He.ga K x)) = some (.type "type")
@[simp] def dRaise (c : Str) : DS := fun ρ k => k.ex ρ c
section
variable {X : Cx} {W : WX} {g0 : Gh} {k : Nat} {x : Str} {p pos pos' : Pos}
theorem dp_raise (C : Cn X W k) (T : XCls X.K X.mg x) (hg : Gl X x := by rfl) (hdb : (x == ("__debug__" : Str)) = false := by decide) : DP X W g0 (.Raise (some (.Call (.Name x p) [] [] pos)) none pos') (dRaise x) :=
  PS.imp (ps_raise C.cm C.tk (pmk_own0 PySem.F.excBase_ValueError T.ok T.gl T.kp (raises_own T.sb T.ty) hg hdb)) fun E σ H h => by
    obtain ⟨g, ρ, k, rfl, s0, e, t, l⟩ := h
    exact l.ex ρ x σ g s0 e t
end

/-! ### while -/
def whileN (c : DB) (b : DS) : Nat → DS
  | 0 => fun _ _ => False
  | n + 1 => fun ρ k => c ρ (fun v => if v = true then b ρ { k with nx := fun ρ' => whileN c b n ρ' k, ct := fun ρ' => whileN c b n ρ' k, bk := k.nx } else k.nx ρ) (k.ex ρ)
def dWhile (c : DB) (b : DS) : DS := fun ρ k => ∃ n, whileN c b n ρ k
section
variable {X : Cx} {W : WX} {g0 : Gh} {k : Nat} {pos : Pos}
theorem dp_while {c : Expr} {body : List Stmt} {tc : DB} {tb : DS} (C : Cn X W k) (hc : DTt X W g0 c tc) (hb : DPs X W g0 body tb) : DP X W g0 (.While c body [] pos) (dWhile tc tb) :=
  PS.imp (ps_while C.po hc hb) fun E σ H h => by
    obtain ⟨g, ρ, k, rfl, s0, e, ⟨n, t⟩, l⟩ := h
    refine ⟨fun m σ H => ∃ (g : Gh) (ρ : Rho), g.H = H ∧ Step g0 g ∧ EnvOk X.K g0 g ρ σ ∧ whileN tc tb m ρ k, ⟨n, g, ρ, rfl, s0, e, t⟩, ?_⟩
    rintro m σ' H' ⟨g', ρ', rfl, s', e', t'⟩
    cases m with
    | zero => exact t'.elim
    | succ m =>
      refine ⟨g', ρ', _, _, rfl, s', e', t', fun v hv g2 s2 => ?_, l.xok s' e'⟩
      cases v with
      | true =>
        rw [if_pos rfl] at hv ⊢
        refine ⟨fun σ H => ∃ (g : Gh) (ρ : Rho), g.H = H ∧ Step g0 g ∧ EnvOk X.K g0 g ρ σ ∧ whileN tc tb m ρ k, fun σ3 H3 w => ⟨m, Nat.lt_succ_self m, w⟩, g2, ρ', _, rfl, s'.trans s2, e'.step s2, hv, ?_⟩
        exact ⟨fun ρ3 σ3 g3 s3 e3 w3 => ⟨g3, ρ3, rfl, s3, e3, w3⟩, l.rt, l.nx, fun ρ3 σ3 g3 s3 e3 w3 => ⟨g3, ρ3, rfl, s3, e3, w3⟩, l.ex⟩
      | false =>
        rw [if_neg Bool.false_ne_true] at hv ⊢
        exact l.nx _ _ _ (s'.trans s2) (e'.step s2) hv
end

/-! ### for -/
/-- the turns over the items that are left -/
def forN (gt : DG) (b : DS) : List D → DS
  | [] => fun ρ k => k.nx ρ
  | d :: ds => fun ρ k => gt d ρ fun ρ1 => b ρ1 { k with nx := fun ρ' => forN gt b ds ρ' k, ct := fun ρ' => forN gt b ds ρ' k, bk := k.nx }
/-- a list or a tuple is walked -/
theorem pi_seq {X : Cx} {tg l : Expr} {tl : TE} (hl : PE X l tl) : PI X tg l (fun σ H R => tl σ H fun x H1 => ∃ a, x = .ref a ∧ (((∃ xs, SqL X.K H1 a xs) ∧ R (Itl X.K a) H1) ∨ ((∃ xs, SqT X.K H1 a xs) ∧ R (Itt X.K a) H1))) := by
  refine ⟨fun pins s σ H R I h => ?_⟩
  refine thn (hl.run pins s σ H _ I h) fun v s1 ⟨x, H1, I1, r1, q1⟩ => ?_
  obtain ⟨a, e, q1⟩ := q1
  subst e
  cases r1
  rcases q1 with ⟨⟨xs, hq⟩, q⟩ | ⟨⟨xs, hq⟩, q⟩
  · obtain ⟨its, rv, p, hz⟩ := I1.list hq
    refine wpAny_pyIter_list p.isList ?_
    refine ⟨s1.heap.objs.size, [s1.heap.objs.size], _, _, H1, rfl, I1.kept (t' := s1.toks) fun b o e => Heap.get?_push_of_some _ e, turn_list a _, ⟨_, Heap.get?_push_size _ rfl, rfl, rfl⟩, fun b hb => ?_, q⟩
    have e : b = s1.heap.objs.size := by simpa using hb
    subst e
    exact I1.fpOk (Nat.le_refl _) (I1.hok.fresh (Nat.le_refl _))
  · obtain ⟨its, rv, p, hz⟩ := I1.tuple hq
    refine wpAny_pyIter_tuple (show s1.heap.IsTuple a its.toArray from p) ?_
    refine ⟨s1.heap.objs.size, [s1.heap.objs.size], _, _, H1, rfl, I1.kept (t' := s1.toks) fun b o e => Heap.get?_push_of_some _ e, turn_tuple a _, ⟨_, Heap.get?_push_size _ rfl, rfl, rfl⟩, fun b hb => ?_, q⟩
    have e : b = s1.heap.objs.size := by simpa using hb
    subst e
    exact I1.fpOk (Nat.le_refl _) (I1.hok.fresh (Nat.le_refl _))
/-- the base of a loop's body: what is frozen at the loop's start stays -/
abbrev Gh.re (g0 g1 : Gh) : Gh := ⟨g1.G, g1.M, g0.H⟩
theorem Step.re {g0 g1 g : Gh} (s1 : Step g0 g1) (s : Step (g0.re g1) g) : Step g0 g where
  gs := fun a o h => s.gs a o (s1.gs a o h)
  gn := fun a o h => by
    rcases s.gn a o h with q | q | q
    · exact s1.gn a o q
    · exact .inr (.inl q)
    · exact .inr (.inr q)
  ms := fun a h => s.ms a (s1.ms a h)
  mn := fun a h => by
    rcases s.mn a h with q | q
    · exact s1.mn a q
    · exact .inr q
  hs := fun a o h hm => by
    refine s.hs a o h fun z => ?_
    rcases s1.mn a z with q | q
    · exact hm q
    · rw [h] at q; cases q
  ok := s.ok
theorem Step.to {g0 g1 g : Gh} (s1 : Step g0 g1) (s : Step g0 g) (gs : ∀ a o, g1.G a = some o → g.G a = some o) (ms : ∀ a ∈ g1.M, a ∈ g.M) : Step (g0.re g1) g where
  gs := gs
  gn := fun a o h => by
    rcases s.gn a o h with q | q | q
    · exact .inl (s1.gs a o q)
    · exact .inr (.inl q)
    · exact .inr (.inr q)
  ms := ms
  mn := fun a h => by
    rcases s.mn a h with q | q
    · exact .inl (s1.ms a q)
    · exact .inr q
  hs := fun a o h hm => s.hs a o h fun z => hm (s1.ms a z)
  ok := s.ok
theorem EnvOk.re {K : PySem.W.Frag} {g0 g1 g : Gh} {ρ : Rho} {σ : L2.St} (e : EnvOk K g0 g ρ σ) : EnvOk K (g0.re g1) g ρ σ := ⟨e.len, e.fz, fun i d h => let ⟨p, a, o⟩ := e.ow i d h; ⟨p, a, o.n0, o.ng, o.nm, o.at_⟩, e.ap⟩
theorem EnvOk.ofRe {K : PySem.W.Frag} {g0 g1 g : Gh} {ρ : Rho} {σ : L2.St} (e : EnvOk K (g0.re g1) g ρ σ) : EnvOk K g0 g ρ σ := ⟨e.len, e.fz, fun i d h => let ⟨p, a, o⟩ := e.ow i d h; ⟨p, a, o.n0, o.ng, o.nm, o.at_⟩, e.ap⟩
theorem Lk.re {K : PySem.W.Frag} {W : WX} {g0 g1 : Gh} {k : EndsD} {E : Ends} (l : Lk K W g0 k E) (s1 : Step g0 g1) : Lk K W (g0.re g1) k E :=
  ⟨fun ρ σ g s e w => l.nx ρ σ g (s1.re s) e.ofRe w, fun d v g s r w => l.rt d v g (s1.re s) r w, fun ρ σ g s e w => l.bk ρ σ g (s1.re s) e.ofRe w, fun ρ σ g s e w => l.ct ρ σ g (s1.re s) e.ofRe w, fun ρ c σ g s e w => l.ex ρ c σ g (s1.re s) e.ofRe w⟩
/-- what stands ahead of a turn: ds the items that are left -/
def ForI (K : PySem.W.Frag) (gb : Gh) (gt : DG) (b : DS) (ds : List D) (k : EndsD) (σ : L2.St) (H : Hp) : Prop :=
  ∃ (g : Gh) (ρ : Rho), g.H = H ∧ Step gb g ∧ EnvOk K gb g ρ σ ∧ forN gt b ds ρ k
/-- what the iterator J walks, from gb on: things that bear ds -/
def Yields (K : PySem.W.Frag) (J : It) (gb : Gh) (ds : List D) : Prop := ∀ g, Step gb g → ∀ i, (∀ d, ds[i]? = some d → J.go i g.H ∧ ∀ x H', J.yld i g.H x H' → ∃ g', g'.H = H' ∧ Step g g' ∧ Rep K g' x d) ∧ (ds.length ≤ i → J.stop i g.H)
section
variable {X : Cx} {W : WX} {gb : Gh} {k : EndsD} {E : Ends} {gt : DG} {tb : DS}
/-- the whole loop, from its base -/
theorem for_core {J : It} {ds : List D} {g1 : Gh} {ρ : Rho} {σ : L2.St} {sl : List Nat} (l : Lk X.K W gb k E) (y : Yields X.K J gb ds) (s : Step gb g1) (e : EnvOk X.K gb g1 ρ σ) (w : forN gt tb ds ρ k) :
    ∃ Wi : Nat → Nat → L2.St → Hp → Prop, (∃ m, Wi 0 m σ g1.H) ∧ ∀ i m σ H, Wi i m σ H → (J.stop i H ∧ E.nx σ H) ∨ (J.go i H ∧ ∃ N : L2.St → Hp → Prop, (∀ σ' H', N σ' H' → ∃ m', m' < m ∧ Wi (i + 1) m' σ' H') ∧
      ∀ x H', J.yld i H x H' → ∃ gb, liftG X.K gb sl gt x σ H' fun σ2 H2 => ∃ gb, liftS X.K W gb tb { E with nx := N, ct := N, bk := E.nx } σ2 H2) := by
  refine ⟨fun i m σ H => m = ds.length - i ∧ i ≤ ds.length ∧ ForI X.K gb gt tb (ds.drop i) k σ H, ⟨_, rfl, Nat.zero_le _, g1, ρ, rfl, s, e, by rw [List.drop_zero]; exact w⟩, ?_⟩
  rintro i m σ H ⟨rfl, hi, g, ρ, rfl, s, e, w⟩
  obtain ⟨y1, y2⟩ := y g s i
  by_cases hlt : i < ds.length
  · rw [List.drop_eq_getElem_cons hlt] at w
    have hd : ds[i]? = some ds[i] := List.getElem?_eq_getElem hlt
    obtain ⟨go, yl⟩ := y1 _ hd
    refine .inr ⟨go, fun σ H => ForI X.K gb gt tb (ds.drop (i + 1)) k σ H, fun σ' H' f => ⟨_, by omega, rfl, hlt, f⟩, fun x H' hx => ?_⟩
    obtain ⟨g', rfl, s', r'⟩ := yl x H' hx
    refine ⟨gb, g', ρ, _, _, rfl, s.trans s', e.step s', r', w, fun ρ3 σ3 e3 _ w3 => ⟨gb, g', ρ3, _, rfl, s.trans s', e3, w3, ?_⟩⟩
    exact ⟨fun ρ4 σ4 g4 s4 e4 w4 => ⟨g4, ρ4, rfl, s4, e4, w4⟩, l.rt, l.nx, fun ρ4 σ4 g4 s4 e4 w4 => ⟨g4, ρ4, rfl, s4, e4, w4⟩, l.ex⟩
  · have h0 : ds.length ≤ i := Nat.le_of_not_lt hlt
    rw [List.drop_of_length_le h0] at w
    exact .inl ⟨y2 h0, l.nx _ _ _ s e w⟩
end
/-- what is walked, over data -/
abbrev DIt := Rho → (List D → Prop) → (Str → Prop) → Prop
def liftI (K : PySem.W.Frag) (W : WX) (g0 : Gh) (t : DIt) : TI := fun σ H R => ∃ (g : Gh) (ρ : Rho) (P : List D → Prop) (Ex : Str → Prop), g.H = H ∧ Step g0 g ∧ EnvOk K g0 g ρ σ ∧ t ρ P Ex ∧
  (∀ ds, P ds → ∀ J g1, Step g g1 → Yields K J (g0.re g1) ds → R J g1.H) ∧ XOk K W g σ Ex
theorem PI.imp {X : Cx} {tg e : Expr} {t t' : TI} (h : PI X tg e t) (i : ∀ σ H Q, t' σ H Q → t σ H Q) : PI X tg e t' := ⟨fun pins s σ H R I w => h.run pins s σ H R I (i _ _ _ w)⟩
abbrev DI (X : Cx) (W : WX) (g0 : Gh) (tg iter : Expr) (t : DIt) : Prop := PI X tg iter (liftI X.K W g0 t)
/-- a list's or tuple's items -/
@[simp] def seqD (P : List D → Prop) : D → Prop
  | .lst ds => P ds
  | .tup ds => P ds
  | _ => False
@[simp] def iSeq (t : DT) : DIt := fun ρ P Ex => t ρ (seqD P) Ex
theorem yields_lst {K : PySem.W.Frag} {gb : Gh} {a : Addr} {vs : List V} {ds : List D} (ha : gb.G a = some (.lst vs)) (r : ∀ g, Step gb g → Reps K g vs ds) : Yields K (Itl K a) gb ds := fun g s i => by
  have rs := r g s
  have hl : SqL K g.H a vs := SqL.of (s.ok.lst (s.gs _ _ ha))
  refine ⟨fun d hd => ?_, fun h => ⟨vs, hl, by rw [rs.length]; exact h⟩⟩
  obtain ⟨v, hv, rv⟩ := rs.get hd
  refine ⟨⟨vs, v, hl, hv⟩, fun x H' hy => ?_⟩
  obtain ⟨e1, e2⟩ := hy
  have e3 := e2 vs hl
  rw [hv] at e3
  cases e3
  exact ⟨g, e1.symm, Step.refl s.ok, rv⟩
theorem yields_tup {K : PySem.W.Frag} {gb : Gh} {a : Addr} {vs : List V} {ds : List D} (ha : TpAt K gb.G a vs) (r : ∀ g, Step gb g → Reps K g vs ds) : Yields K (Itt K a) gb ds := fun g s i => by
  have rs := r g s
  have hl : SqT K g.H a vs := s.ok.sqT (TpAt.up ha s.gs)
  refine ⟨fun d hd => ?_, fun h => ⟨vs, hl, by rw [rs.length]; exact h⟩⟩
  obtain ⟨v, hv, rv⟩ := rs.get hd
  refine ⟨⟨vs, v, hl, hv⟩, fun x H' hy => ?_⟩
  obtain ⟨e1, e2⟩ := hy
  have e3 := e2 vs hl
  rw [hv] at e3
  cases e3
  exact ⟨g, e1.symm, Step.refl s.ok, rv⟩
section
variable {X : Cx} {W : WX} {g0 : Gh} {tg iter e : Expr} {t : DT}
theorem di_seq (h : DE X W g0 e t) : DI X W g0 tg e (iSeq t) := PI.imp (pi_seq h) fun σ H R h => by
  obtain ⟨g, ρ, P, Ex, rfl, s0, e, w, q, x⟩ := h
  refine ⟨g, ρ, _, _, rfl, s0, e, w, fun d hd v g1 s1 r1 => ?_, x⟩
  cases r1 with
  | @lst a vs ds ha rs => exact ⟨a, rfl, .inl ⟨⟨vs, SqL.of (s1.ok.lst ha)⟩, q ds hd _ g1 s1 (yields_lst (gb := g0.re g1) ha fun g s => Reps.up (g := g1) s.gs s.ms rs)⟩⟩
  | @tup a vs ds ha rs => exact ⟨a, rfl, .inr ⟨⟨vs, s1.ok.sqT ha⟩, q ds hd _ g1 s1 (yields_tup (gb := g0.re g1) ha fun g s => Reps.up (g := g1) s.gs s.ms rs)⟩⟩
  | _ => exact hd.elim
/-- a text's signs -/
@[simp] def strD (P : List D → Prop) : D → Prop
  | .str z => P (z.cps.toList.map fun c => .str ⟨#[c]⟩)
  | _ => False
@[simp] def iStrD (t : DT) : DIt := fun ρ P Ex => t ρ (strD P) Ex
theorem yields_str {K : PySem.W.Frag} {gb : Gh} (z : Str) : Yields K (Its z) gb (z.cps.toList.map fun c => .str ⟨#[c]⟩) := fun g s i => by
  refine ⟨fun d hd => ?_, fun h => by show z.cps.size ≤ i; simpa using h⟩
  rw [List.getElem?_map] at hd
  cases e : z.cps.toList[i]? with
  | none => rw [e] at hd; cases hd
  | some c =>
    rw [e] at hd
    have ed : D.str ⟨#[c]⟩ = d := Option.some.inj hd
    subst ed
    have hi : i < z.cps.size := by
      have := (List.getElem?_eq_some_iff.mp e).1
      simpa using this
    refine ⟨hi, fun x H' hy => ?_⟩
    obtain ⟨e1, c', e2, e3⟩ := hy
    have e4 : c' = c := by
      have : z.cps.toList[i]? = some c' := by rw [← e2]; simp
      rw [e] at this
      exact (Option.some.inj this).symm
    subst e3 e4
    exact ⟨g, e1.symm, Step.refl s.ok, .str _⟩
theorem di_str (h : DE X W g0 e t) : DI X W g0 tg e (iStrD t) := PI.imp (pi_str h) fun σ H R h => by
  obtain ⟨g, ρ, P, Ex, rfl, s0, e, w, q, x⟩ := h
  refine ⟨g, ρ, _, _, rfl, s0, e, w, fun d hd v g1 s1 r1 => ?_, x⟩
  cases r1 with
  | str z => exact ⟨z, rfl, q _ hd _ g1 s1 (yields_str z)⟩
  | _ => exact hd.elim
/-- lo, lo + 1, .. n of them -/
def rangeD (lo : Int) (n : Nat) : List D := (List.range n).map fun i => .int (lo + (i : Nat))
theorem yields_range {K : PySem.W.Frag} {gb : Gh} (lo : Int) (n : Nat) : Yields K (Itr lo n) gb (rangeD lo n) := fun g s i => by
  unfold rangeD
  refine ⟨fun d hd => ?_, fun h => by show n ≤ i; simpa using h⟩
  have hi : i < n := by
    have := (List.getElem?_eq_some_iff.mp hd).1
    simpa using this
  rw [List.getElem?_map, List.getElem?_range hi] at hd
  have ed := Option.some.inj hd
  refine ⟨hi, fun x H' hy => ?_⟩
  obtain ⟨e1, e2⟩ := hy
  subst e2
  rw [← ed]
  exact ⟨g, e1.symm, Step.refl s.ok, .int _⟩
@[simp] def iRange1 (ts : DA) : DIt := fun ρ P Ex => ts ρ (fun ds => match ds with
  | [.int j] => -(2 ^ 62) ≤ j ∧ j < 2 ^ 62 ∧ P (rangeD 0 j.toNat)
  | _ => False) Ex
@[simp] def iRange2 (ts : DA) : DIt := fun ρ P Ex => ts ρ (fun ds => match ds with
  | [.int i, .int j] => (-(2 ^ 62) ≤ i ∧ i < 2 ^ 62 ∧ -(2 ^ 62) ≤ j ∧ j < 2 ^ 62) ∧ P (rangeD i (j - i).toNat)
  | _ => False) Ex
theorem di_range1 {a : Expr} {ts : DA} {p pos : Pos} (hm : X.mg "range" = none) (ha : DPA X W g0 [a] ts) (hg : Gl X "range" := by rfl) (hs : starEach [a] X.env = [(false, eval a X.env)] := by rfl) : DI X W g0 tg (.Call (.Name "range" p) [a] [] pos) (iRange1 ts) :=
  PI.imp (pi_range1 hg hm ha hs) fun σ H R h => by
    obtain ⟨g, ρ, P, Ex, rfl, s0, e, w, q, x⟩ := h
    refine ⟨g, ρ, _, _, rfl, s0, e, w, fun ds hd vs g1 s1 r1 => ?_, x⟩
    split at hd
    · rename_i j
      cases r1 with
      | cons r rs => cases rs; cases r; exact ⟨j, rfl, hd.1, hd.2.1, q _ hd.2.2 _ g1 s1 (yields_range 0 _)⟩
    · exact hd.elim
theorem di_range2 {a b : Expr} {ts : DA} {p pos : Pos} (hm : X.mg "range" = none) (ha : DPA X W g0 [a, b] ts) (hg : Gl X "range" := by rfl) (hs : starEach [a, b] X.env = [(false, eval a X.env), (false, eval b X.env)] := by rfl) (hs2 : starEach [b] X.env = [(false, eval b X.env)] := by rfl) :
    DI X W g0 tg (.Call (.Name "range" p) [a, b] [] pos) (iRange2 ts) :=
  PI.imp (pi_range2 hg hm ha hs hs2) fun σ H R h => by
    obtain ⟨g, ρ, P, Ex, rfl, s0, e, w, q, x⟩ := h
    refine ⟨g, ρ, _, _, rfl, s0, e, w, fun ds hd vs g1 s1 r1 => ?_, x⟩
    split at hd
    · rename_i i j
      cases r1 with
      | cons r rs => cases rs with
        | cons r' rs => cases rs; cases r; cases r'; exact ⟨i, j, rfl, hd.1, q _ hd.2 _ g1 s1 (yields_range i _)⟩
    · exact hd.elim
@[simp] def dFor (t : DIt) (gt : DG) (b : DS) : DS := fun ρ k => t ρ (fun ds => forN gt b ds ρ k) (k.ex ρ)
theorem dp_for {sl : List Nat} {k : Nat} {pos : Pos} {body : List Stmt} {t : DIt} {gt : DG} {tb : DS} (C : Cn X W k) (hi : DI X W g0 tg iter t) (hg : ∀ g0, DPG X g0 sl tg gt) (hb : ∀ g0, DPs X W g0 body tb) (hs : ∀ x, foldedSetIterable iter X.env x = pure x := by intro _; rfl) :
    DP X W g0 (.For tg iter body [] pos) (dFor t gt tb) := by
  refine ⟨fun pins s σ H E I h => ?_⟩
  obtain ⟨g, ρ, k, rfl, s0, e, w, l⟩ := h
  refine (ps_for (g := fun v σ H Q => ∃ gb, liftG X.K gb sl gt v σ H Q) (tb := fun D σ H => ∃ gb, liftS X.K W gb tb D σ H) C.po C.cm hi
    ⟨fun pins s σ H v u Q I r ⟨gb, w⟩ => (hg gb).run pins s σ H v u Q I r w⟩ ⟨fun pins s σ H D I ⟨gb, w⟩ => (hb gb).run pins s σ H D I w⟩ hs).run pins s σ g.H E I ?_
  refine ⟨g, ρ, _, _, rfl, s0, e, w, fun ds hd J g1 s1 y1 => ?_, l.xok s0 e⟩
  have s01 := s0.trans s1
  exact for_core (l.re s01) y1 (s01.to s01 (fun _ _ h => h) fun _ h => h) (e.step s1).re hd
end
end AU

/-! AuOps: operators, comparisons, subscripts, slices, built-ins, over data. -/
namespace AU
open PySem L2 PySem.Spec PyProof.Rows

/-! ### arithmetic, + of texts, tuples, lists -/
@[simp] def fAdd : D → D → (D → Prop) → Prop
  | .int i, .int j, P => P (.int (i + j))
  | .str x, .str y, P => x.length + y.length ≤ 16777216 ∧ P (.str (x ++ y))
  | .tup a, .tup b, P => a.length + b.length ≤ 16777216 ∧ P (.tup (a ++ b))
  | .lst a, .lst b, P => a.length + b.length ≤ 16777216 ∧ P (.lst (a ++ b))
  | _, _, _ => False
@[simp] def fSub : D → D → (D → Prop) → Prop
  | .int i, .int j, P => P (.int (i - j))
  | _, _, _ => False
@[simp] def fMul : D → D → (D → Prop) → Prop
  | .int i, .int j, P => IntMulOk i j ∧ P (.int (i * j))
  | _, _, _ => False
/-- // by a divisor that is not 0, below 2 ^ 9000 -/
@[simp] def fDiv : D → D → (D → Prop) → Prop
  | .int i, .int j, P => j ≠ 0 ∧ j.natAbs.log2 < 9000 ∧ P (.int (i.fdiv j))
  | _, _, _ => False
@[simp] def fMod : D → D → (D → Prop) → Prop
  | .int i, .int j, P => j ≠ 0 ∧ P (.int (i.fmod j))
  | _, _, _ => False
section
variable {K : PySem.W.Frag} {X : Cx}
theorem rel_add : Rel2 K (fun x y H Q => (rI0 (fun i j => .int (i + j))) x y H Q ∨ ((fun x y H Q => ∃ i j, x = V.str i ∧ y = V.str j ∧ i.length + j.length ≤ sizeLine ∧ Q (.str (i ++ j)) H) : R2) x y H Q ∨ rCatA K x y H Q ∨ rCat x y H Q) fAdd := by
  intro g0 g x y a b P Q s rx ry w q
  have r0 := Step.refl s.ok
  cases rx with
  | int i => cases ry with
    | int j => exact .inl ⟨i, j, rfl, rfl, q _ w _ g r0 (.int _)⟩
    | _ => exact w.elim
  | str i => cases ry with
    | str j => exact .inr (.inl ⟨i, j, rfl, rfl, by rw [sizeLine_eq]; exact w.1, q _ w.2 _ g r0 (.str _)⟩)
    | _ => exact w.elim
  | @tup a va da ha ra => cases ry with
    | @tup b vb db hb rb =>
      refine .inr (.inr (.inl ⟨a, b, va, vb, rfl, rfl, s.ok.sqT ha, s.ok.sqT hb, by rw [sizeLine_eq, ra.length, rb.length]; exact w.1, fun e => ?_, fun _ e => ?_, fun _ _ p hp => ?_⟩))
      · subst e; cases ra
        exact q _ w.2 _ g r0 (.tup hb rb)
      · subst e; cases rb
        exact q _ w.2 _ g r0 (by rw [List.append_nil]; exact .tup ha ra)
      · obtain ⟨s2, r2⟩ := newTup s.ok hp (ra.append rb)
        exact q _ w.2 _ _ s2 r2
    | _ => exact w.elim
  | @lst a va da ha ra => cases ry with
    | @lst b vb db hb rb =>
      refine .inr (.inr (.inr ⟨a, b, va, vb, rfl, rfl, s.ok.lst ha, s.ok.lst hb, by rw [sizeLine_eq, ra.length, rb.length]; exact w.1, fun p hp => ?_⟩))
      obtain ⟨s2, r2⟩ := newLst s.ok hp (ra.append rb)
      exact q _ w.2 _ _ s2 r2
    | _ => exact w.elim
  | _ => cases ry <;> exact w.elim
theorem opr_add : OpR X (binaryOp .Add) (fun x y H Q => (rI0 (fun i j => .int (i + j))) x y H Q ∨ ((fun x y H Q => ∃ i j, x = V.str i ∧ y = V.str j ∧ i.length + j.length ≤ sizeLine ∧ Q (.str (i ++ j)) H) : R2) x y H Q ∨ rCatA X.K x y H Q ∨ rCat x y H Q) :=
  op_add.or (op_add_str.or (op_catA.or op_cat))
theorem rel_sub : Rel2 K (rI0 fun i j => .int (i - j)) fSub := by
  intro g0 g x y a b P Q s rx ry w q
  cases rx with
  | int i => cases ry with
    | int j => exact ⟨i, j, rfl, rfl, q _ w _ g (Step.refl s.ok) (.int _)⟩
    | _ => exact w.elim
  | _ => cases ry <;> exact w.elim
theorem opr_mul : OpR X (binaryOp .Mult) (rI IntMulOk fun i j => .int (i * j)) := opI fun _ _ _ _ _ _ _ hc q => mul_int q hc
theorem rel_mul : Rel2 K (rI IntMulOk fun i j => .int (i * j)) fMul := by
  intro g0 g x y a b P Q s rx ry w q
  cases rx with
  | int i => cases ry with
    | int j => exact ⟨i, j, rfl, rfl, w.1, q _ w.2 _ g (Step.refl s.ok) (.int _)⟩
    | _ => exact w.elim
  | _ => cases ry <;> exact w.elim
theorem opr_div : OpR X (binaryOp .FloorDiv) (rI (fun _ j => j ≠ 0 ∧ j.natAbs.log2 < 9000) fun i j => .int (i.fdiv j)) := opI fun _ _ _ _ _ _ _ hc q => floordiv_int hc.1 q (.inl (PyProof.noPylong_of_log2 hc.2))
theorem rel_div : Rel2 K (rI (fun _ j => j ≠ 0 ∧ j.natAbs.log2 < 9000) fun i j => .int (i.fdiv j)) fDiv := by
  intro g0 g x y a b P Q s rx ry w q
  cases rx with
  | int i => cases ry with
    | int j => exact ⟨i, j, rfl, rfl, ⟨w.1, w.2.1⟩, q _ w.2.2 _ g (Step.refl s.ok) (.int _)⟩
    | _ => exact w.elim
  | _ => cases ry <;> exact w.elim
theorem rel_mod : Rel2 K (rI (fun _ j => j ≠ 0) fun i j => .int (i.fmod j)) fMod := by
  intro g0 g x y a b P Q s rx ry w q
  cases rx with
  | int i => cases ry with
    | int j => exact ⟨i, j, rfl, rfl, w.1, q _ w.2 _ g (Step.refl s.ok) (.int _)⟩
    | _ => exact w.elim
  | _ => cases ry <;> exact w.elim

/-! ### comparisons -/
mutual
def deq : D → D → Bool
  | .non, .non => true
  | .bl a, .bl b => a == b
  | .bl a, .int b => (if a then 1 else 0) == b
  | .int a, .bl b => a == (if b then 1 else 0)
  | .int a, .int b => a == b
  | .str a, .str b => a == b
  | .tup a, .tup b => deqs a b
  | .lst a, .lst b => deqs a b
  | _, _ => false
def deqs : List D → List D → Bool
  | [], [] => true
  | a :: as, b :: bs => deq a b && deqs as bs
  | _, _ => false
end
mutual
/-- data that == is told of: None, truth values, numbers, texts, tuples and lists of these -/
def lay : D → Bool
  | .non => true
  | .bl _ => true
  | .int _ => true
  | .str x => PyData.strOk x
  | .tup a => lays a
  | .lst a => lays a
  | _ => false
def lays : List D → Bool
  | [] => true
  | a :: as => lay a && lays as
end
mutual
def dep : D → Nat
  | .tup a => deps a + 1
  | .lst a => deps a + 1
  | _ => 0
def deps : List D → Nat
  | [] => 0
  | a :: as => max (dep a) (deps as)
end
mutual
def py : D → PyData
  | .non => .none
  | .bl b => .bool b
  | .int i => .int i
  | .str x => .str x
  | .tup a => .tuple (pys a)
  | .lst a => .list (pys a)
  | _ => .none
def pys : List D → List PyData
  | [] => []
  | a :: as => py a :: pys as
end
mutual
theorem py_eqv : ∀ (a b : D), lay a = true → lay b = true → PyData.eqv (py a) (py b) = deq a b
  | .non, b, _, h => by cases b <;> first | rfl | cases h
  | .bl _, b, _, h => by cases b <;> first | rfl | cases h
  | .int _, b, _, h => by cases b <;> first | rfl | cases h
  | .str _, b, _, h => by cases b <;> first | rfl | cases h
  | .tup a, b, h1, h => by
    cases b with
    | tup b => exact py_eqvs a b h1 h
    | _ => first | rfl | cases h
  | .lst a, b, h1, h => by
    cases b with
    | lst b => exact py_eqvs a b h1 h
    | _ => first | rfl | cases h
  | .dS _, _, h, _ => by cases h
  | .dT _, _, h, _ => by cases h
  | .ch _ _, _, h, _ => by cases h
  | .drw, _, h, _ => by cases h
  | .scr _, _, h, _ => by cases h
theorem py_eqvs : ∀ (a b : List D), lays a = true → lays b = true → PyData.eqvAll (pys a) (pys b) = deqs a b
  | [], [], _, _ => rfl
  | [], _ :: _, _, _ => rfl
  | _ :: _, [], _, _ => rfl
  | a :: as, b :: bs, h1, h2 => by
    have h1' : (lay a && lays as) = true := h1
    have h2' : (lay b && lays bs) = true := h2
    rw [Bool.and_eq_true] at h1' h2'
    show (PyData.eqv (py a) (py b) && PyData.eqvAll (pys as) (pys bs)) = (deq a b && deqs as bs)
    rw [py_eqv a b h1'.1 h2'.1, py_eqvs as bs h1'.2 h2'.2]
end
mutual
theorem py_lay : ∀ (a : D), lay a = true → PyData.canLay0 (py a) = true
  | .non, _ => rfl
  | .bl _, _ => rfl
  | .int _, _ => rfl
  | .str _, h => h
  | .tup a, h => py_lays a h
  | .lst a, h => py_lays a h
  | .dS _, h => by cases h
  | .dT _, h => by cases h
  | .ch _ _, h => by cases h
  | .drw, h => by cases h
  | .scr _, h => by cases h
theorem py_lays : ∀ (a : List D), lays a = true → PyData.canLayAll0 (pys a) = true
  | [], _ => rfl
  | a :: as, h => by
    have h' : (lay a && lays as) = true := h
    rw [Bool.and_eq_true] at h'
    show (PyData.canLay0 (py a) && PyData.canLayAll0 (pys as)) = true
    rw [py_lay a h'.1, py_lays as h'.2]
    rfl
end
mutual
theorem py_dep : ∀ (a : D), lay a = true → PyData.depth (py a) = dep a
  | .non, _ => rfl
  | .bl _, _ => rfl
  | .int _, _ => rfl
  | .str _, _ => rfl
  | .tup a, h => by show PyData.depthAll (pys a) + 1 = deps a + 1; rw [py_deps a h]
  | .lst a, h => by show PyData.depthAll (pys a) + 1 = deps a + 1; rw [py_deps a h]
  | .dS _, h => by cases h
  | .dT _, h => by cases h
  | .ch _ _, h => by cases h
  | .drw, h => by cases h
  | .scr _, h => by cases h
theorem py_deps : ∀ (a : List D), lays a = true → PyData.depthAll (pys a) = deps a
  | [], _ => rfl
  | a :: as, h => by
    have h' : (lay a && lays as) = true := h
    rw [Bool.and_eq_true] at h'
    show max (PyData.depth (py a)) (PyData.depthAll (pys as)) = max (dep a) (deps as)
    rw [py_dep a h'.1, py_deps as h'.2]
end
mutual
theorem rep_dp {g : Gh} (h : Hold g) : ∀ {v : V} {a : D}, Rep K g v a → lay a = true → Dp K g.H v (py a)
  | _, _, .non, _ => .non
  | _, _, .bl b, _ => .bl b
  | _, _, .int i, _ => .int i
  | _, _, .str x, _ => .str x
  | _, _, .tup ha r, l => .tup (h.sqT ha) (reps_dp h r l)
  | _, _, .lst ha r, l => .lst (SqL.of (h.lst ha)) (reps_dp h r l)
  | _, _, .dS _ _, l => by cases l
  | _, _, .dT _ _, l => by cases l
  | _, _, .ch _ _ _, l => by cases l
  | _, _, .drw _, l => by cases l
  | _, _, .scr _ _, l => by cases l
theorem reps_dp {g : Gh} (h : Hold g) : ∀ {v : List V} {a : List D}, Reps K g v a → lays a = true → DpAll K g.H v (pys a)
  | _, _, .nil, _ => .nil
  | _, _, .cons (d := d) (ds := ds) r rs, l => by
    have h' : (lay d && lays ds) = true := l
    rw [Bool.and_eq_true] at h'
    exact .cons (rep_dp h r h'.1) (reps_dp h rs h'.2)
end
/-- data that may stand on either side of == -/
def eqOk (a : D) : Prop := lay a = true ∧ dep a ≤ 64
@[simp] def fEqB (n : Bool) : D → D → (D → Prop) → Prop
  | .int i, .int j, P => P (.bl (n ^^ decide (i = j)))
  | .str x, .str y, P => P (.bl (n ^^ decide (x = y)))
  | .bl x, .bl y, P => P (.bl (n ^^ decide (x = y)))
  | .non, .non, P => P (.bl (n ^^ true))
  | .non, .str _, P => P (.bl n)
  | .str _, .non, P => P (.bl n)
  | a, b, P => eqOk a ∧ eqOk b ∧ P (.bl (n ^^ deq a b))
@[simp] def fEq := fEqB false
@[simp] def fNe := fEqB true
theorem shaped_of {a : D} (h : eqOk a) : SeqAt.shaped (py a) = true := by
  unfold SeqAt.shaped
  rw [py_lay a h.1, py_dep a h.1]
  simpa using h.2
theorem rel_eqB (n : Bool) : Rel2 K (fun x y H Q => (scal x y = true ∧ Q (.bl (n ^^ decide (x = y))) H) ∨ ∃ d e, Dp K H x d ∧ Dp K H y e ∧ SeqAt.shaped d = true ∧ SeqAt.shaped e = true ∧ Q (.bl (n ^^ PyData.eqv d e)) H) (fEqB n) := by
  intro g0 g x y a b P Q s rx ry w q
  have r0 := Step.refl s.ok
  have big : eqOk a ∧ eqOk b ∧ P (.bl (n ^^ deq a b)) → (scal x y = true ∧ Q (.bl (n ^^ decide (x = y))) g.H) ∨ ∃ d e, Dp K g.H x d ∧ Dp K g.H y e ∧ SeqAt.shaped d = true ∧ SeqAt.shaped e = true ∧ Q (.bl (n ^^ PyData.eqv d e)) g.H := fun ⟨h1, h2, h3⟩ =>
    .inr ⟨py a, py b, rep_dp s.ok rx h1.1, rep_dp s.ok ry h2.1, shaped_of h1, shaped_of h2, by rw [py_eqv a b h1.1 h2.1]; exact q _ h3 _ g r0 (.bl _)⟩
  cases rx with
  | non => cases ry with
    | non => exact .inl ⟨rfl, by simpa using q _ w _ g r0 (.bl _)⟩
    | str y => exact .inl ⟨rfl, by simpa using q _ w _ g r0 (.bl _)⟩
    | _ => exact big w
  | bl i => cases ry with
    | bl j =>
      have e : decide (V.bl i = V.bl j) = decide (i = j) := by by_cases h : i = j <;> simp [h]
      exact .inl ⟨rfl, by rw [e]; exact q _ w _ g r0 (.bl _)⟩
    | _ => exact big w
  | int i => cases ry with
    | int j =>
      have e : decide (V.int i = V.int j) = decide (i = j) := by by_cases h : i = j <;> simp [h]
      exact .inl ⟨rfl, by rw [e]; exact q _ w _ g r0 (.bl _)⟩
    | _ => exact big w
  | str i => cases ry with
    | str j =>
      have e : decide (V.str i = V.str j) = decide (i = j) := by by_cases h : i = j <;> simp [h]
      exact .inl ⟨rfl, by rw [e]; exact q _ w _ g r0 (.bl _)⟩
    | non => exact .inl ⟨rfl, by simpa using q _ w _ g r0 (.bl _)⟩
    | _ => exact big w
  | _ => cases ry <;> exact big w
theorem opr_eq {k : Nat} {W : WX} (C : Cn X W k) : OpR X (compareOp .Eq) (fun x y H Q => (scal x y = true ∧ Q (.bl (false ^^ decide (x = y))) H) ∨ ∃ d e, Dp X.K H x d ∧ Dp X.K H y e ∧ SeqAt.shaped d = true ∧ SeqAt.shaped e = true ∧ Q (.bl (false ^^ PyData.eqv d e)) H) := by
  intro pins s σ H x y v u Q I rx ry h
  rcases h with ⟨h1, h2⟩ | ⟨d, e, h1, h2, h3, h4, h5⟩
  · exact op_eq pins s σ H x y v u Q I rx ry ⟨h1, by simpa using h2⟩
  · exact op_eqD C.hr.units pins s σ H x y v u Q I rx ry ⟨d, e, h1, h2, h3, h4, by simpa using h5⟩
theorem opr_ne {k : Nat} {W : WX} (C : Cn X W k) : OpR X (compareOp .NotEq) (fun x y H Q => (scal x y = true ∧ Q (.bl (true ^^ decide (x = y))) H) ∨ ∃ d e, Dp X.K H x d ∧ Dp X.K H y e ∧ SeqAt.shaped d = true ∧ SeqAt.shaped e = true ∧ Q (.bl (true ^^ PyData.eqv d e)) H) := by
  intro pins s σ H x y v u Q I rx ry h
  rcases h with ⟨h1, h2⟩ | ⟨d, e, h1, h2, h3, h4, h5⟩
  · exact op_ne pins s σ H x y v u Q I rx ry ⟨h1, by simpa using h2⟩
  · exact op_neD C.hr.units pins s σ H x y v u Q I rx ry ⟨d, e, h1, h2, h3, h4, by simpa using h5⟩
/-- comparisons of numbers -/
@[simp] def fCmp (p : Int → Int → Bool) : D → D → (D → Prop) → Prop
  | .int i, .int j, P => P (.bl (p i j))
  | _, _, _ => False
@[simp] def fLt := fCmp fun i j => decide (i < j)
@[simp] def fLe := fCmp fun i j => decide (i ≤ j)
@[simp] def fGt := fCmp fun i j => decide (j < i)
@[simp] def fGe := fCmp fun i j => decide (j ≤ i)
theorem rel_cmp (p : Int → Int → Bool) : Rel2 K (rI0 fun i j => .bl (p i j)) (fCmp p) := by
  intro g0 g x y a b P Q s rx ry w q
  cases rx with
  | int i => cases ry with
    | int j => exact ⟨i, j, rfl, rfl, q _ w _ g (Step.refl s.ok) (.bl _)⟩
    | _ => exact w.elim
  | _ => cases ry <;> exact w.elim
/-- is None -/
@[simp] def isNon : D → Bool
  | .non => true
  | _ => false
@[simp] def fIsB (n : Bool) : D → D → (D → Prop) → Prop := fun a b P => match b with
  | .non => P (.bl (n ^^ isNon a))
  | _ => False
@[simp] def fIs := fIsB false
@[simp] def fIsNot := fIsB true
theorem rel_is : Rel2 K (fun x y H Q => y = .non ∧ Q (.bl (decide (x = .non))) H) fIs := by
  intro g0 g x y a b P Q s rx ry w q
  cases ry with
  | non =>
    refine ⟨rfl, ?_⟩
    have w' : P (.bl (false ^^ isNon a)) := w
    have e : decide (x = V.non) = (false ^^ isNon a) := by cases rx <;> first | rfl | simp [isNon]
    rw [e]
    exact q _ w' _ g (Step.refl s.ok) (.bl _)
  | _ => exact w.elim
theorem rel_isnot : Rel2 K (fun x y H Q => y = .non ∧ Q (.bl (!decide (x = .non))) H) fIsNot := by
  intro g0 g x y a b P Q s rx ry w q
  cases ry with
  | non =>
    refine ⟨rfl, ?_⟩
    have w' : P (.bl (true ^^ isNon a)) := w
    have e : (!decide (x = V.non)) = (true ^^ isNon a) := by cases rx <;> first | rfl | simp [isNon]
    rw [e]
    exact q _ w' _ g (Step.refl s.ok) (.bl _)
  | _ => exact w.elim
end
end AU

/-! AuOps2: in, truth, subscripts, slices, built-ins, f-strings, over data. -/
namespace AU
open PySem L2 PySem.Spec PyProof.Rows

/-- the built-in names that no def of the text hides -/
def biN : List Str := ["isinstance", "len", "all", "sum", "max", "abs", "int", "list", "tuple", "sorted", "set", "dict", "range", "zip", "enumerate", "str", "bool"]
def Bi (mg : Str → Option Value) : Prop := ∀ x ∈ biN, mg x = none
theorem Bi.at_ {mg : Str → Option Value} (B : Bi mg) (x : Str) (h : x ∈ biN := by decide +kernel) : mg x = none := B x h

/-! ### in -/
/-- what is told apart without looking inside -/
@[simp] def flat : D → Bool
  | .non => true
  | .bl _ => true
  | .int _ => true
  | .str _ => true
  | _ => false
/-- a text of one sign -/
def sign? (x : Str) : Option Nat := match x.cps.toList with
  | [c] => some c
  | _ => none
def inL (a : D) (ds : List D) : Bool := ds.any fun d => deq d a
@[simp] def fInB (n : Bool) : D → D → (D → Prop) → Prop
  | .str x, .str z, P => ∃ c, sign? x = some c ∧ P (.bl (n ^^ decide (c ∈ z.cps.toList)))
  | a, .tup ds, P => flat a = true ∧ ds.all flat = true ∧ P (.bl (n ^^ inL a ds))
  | a, .lst ds, P => flat a = true ∧ ds.all flat = true ∧ P (.bl (n ^^ inL a ds))
  | _, _, _ => False
@[simp] def fIn := fInB false
@[simp] def fNotIn := fInB true
section
variable {K : PySem.W.Frag} {X : Cx} {g : Gh}
theorem flat_rep {v : V} {a : D} (r : Rep K g v a) (h : flat a = true) : flatV v = true := by
  cases r <;> first | rfl | cases h
theorem eqV_rep {v w : V} {a b : D} (r : Rep K g v a) (q : Rep K g w b) (h : flat a = true) (h2 : flat b = true) : eqV v w = deq a b := by
  cases r <;> cases q <;> first | rfl | (cases h2; done) | (cases h; done)
theorem inV_rep {v : V} {a : D} (r : Rep K g v a) (h : flat a = true) : ∀ {vs : List V} {ds : List D}, Reps K g vs ds → ds.all flat = true → inV v vs = inL a ds ∧ vs.all flatV = true
  | _, _, .nil, _ => ⟨rfl, rfl⟩
  | _, _, .cons (v := w) (d := d) (vs := vs) (ds := ds) q t, h2 => by
    rw [List.all_cons, Bool.and_eq_true] at h2
    obtain ⟨i1, i2⟩ := inV_rep r h t h2.2
    refine ⟨?_, by rw [List.all_cons, flat_rep q h2.1, i2]; rfl⟩
    show (eqV w v || inV v vs) = (deq d a || inL a ds)
    rw [eqV_rep q r h2.1 h, i1]
theorem sign_eq {x : Str} {c : Nat} (h : sign? x = some c) : x = ⟨#[c]⟩ := by
  obtain ⟨⟨l⟩⟩ := x
  cases l with
  | nil => cases h
  | cons a l =>
    cases l with
    | nil =>
      have e : a = c := by
        have h' : some a = some c := h
        exact Option.some.inj h'
      rw [e]
    | cons b l => cases h
abbrev rSign (n : Bool) : R2 := fun x y H Q => ∃ (c : Nat) (z : Str), x = .str ⟨#[c]⟩ ∧ y = .str z ∧ Q (.bl (n ^^ decide (c ∈ z.cps.toList))) H
theorem rel_inB (n : Bool) : Rel2 K (fun x y H Q => rSign n x y H Q ∨ rIn K n x y H Q) (fInB n) := by
  intro g0 g x y a b P Q s rx ry w q
  have r0 := Step.refl s.ok
  have bx : ∀ (b : Bool), (if n = true then !b else b) = (n ^^ b) := fun b => by cases n <;> cases b <;> rfl
  have seq : ∀ {p : Addr} {vs : List V} {ds : List D}, Reps K g vs ds → (SqL K g.H p vs ∨ SqT K g.H p vs) → flat a = true → ds.all flat = true → P (.bl (n ^^ inL a ds)) → rIn K n x (.ref p) g.H Q := fun {p vs ds} rs hs h1 h2 h3 => by
    obtain ⟨i1, i2⟩ := inV_rep rx h1 rs h2
    refine ⟨p, vs, rfl, hs, flat_rep rx h1, i2, ?_⟩
    rw [bx, i1]
    exact q _ h3 _ g r0 (.bl _)
  cases ry with
  | @tup p vs ds hp rs =>
    have w' : flat a = true ∧ ds.all flat = true ∧ P (.bl (n ^^ inL a ds)) := by cases a <;> exact w
    exact .inr (seq rs (.inr (s.ok.sqT hp)) w'.1 w'.2.1 w'.2.2)
  | @lst p vs ds hp rs =>
    have w' : flat a = true ∧ ds.all flat = true ∧ P (.bl (n ^^ inL a ds)) := by cases a <;> exact w
    exact .inr (seq rs (.inl (SqL.of (s.ok.lst hp))) w'.1 w'.2.1 w'.2.2)
  | str z =>
    cases rx with
    | str x =>
      obtain ⟨c, h1, h2⟩ := w
      exact .inl ⟨c, z, by rw [sign_eq h1], rfl, q _ h2 _ g r0 (.bl _)⟩
    | _ => exact w.elim
  | _ => cases a <;> exact w.elim
theorem opr_in : OpR X (compareOp .In) (fun x y H Q => rSign false x y H Q ∨ rIn X.K false x y H Q) := OpR.or (fun pins s σ H x y v u Q I rx ry ⟨c, z, h1, h2, h3⟩ => op_in_sign pins s σ H x y v u Q I rx ry ⟨c, z, h1, h2, by simpa using h3⟩) op_in_seq
theorem opr_notin : OpR X (compareOp .NotIn) (fun x y H Q => rSign true x y H Q ∨ rIn X.K true x y H Q) := OpR.or (fun pins s σ H x y v u Q I rx ry ⟨c, z, h1, h2, h3⟩ => op_notIn_sign pins s σ H x y v u Q I rx ry ⟨c, z, h1, h2, by simpa using h3⟩) op_notIn_seq

/-! ### truth -/
@[simp] def tru : D → (Bool → Prop) → Prop
  | .non, P => P false
  | .bl b, P => P b
  | .int i, P => P (i != 0)
  | .str x, P => x.length ≤ 16777216 ∧ P ((x.length : Int) != 0)
  | .tup ds, P => P (!ds.isEmpty)
  | .lst ds, P => P (!ds.isEmpty)
  | _, _ => False
@[simp] def dTru (t : DT) : DB := fun ρ P Ex => t ρ (fun d => tru d P) Ex
theorem reps_empty {vs : List V} {ds : List D} (r : Reps K g vs ds) : vs.isEmpty = ds.isEmpty := by cases r <;> rfl
theorem dt_tru {W : WX} {g0 : Gh} {e : Expr} {t : DT} (h : DE X W g0 e t) (he : ∀ whole, isTrue e X.env whole = (do let v ← whole; standAt e.pos; holding [v] (truthy v)) := by intro _; rfl) : DTt X W g0 e (dTru t) :=
  PT.imp (pt_truth h he) fun σ H Q h => by
    obtain ⟨g, ρ, P, Ex, rfl, s0, e, t, q, x⟩ := h
    refine ⟨g, ρ, _, Ex, rfl, s0, e, t, fun d hd v g1 s1 r1 => ?_, x⟩
    cases r1 with
    | non => exact ⟨false, rfl, q _ hd g1 s1⟩
    | bl b => exact ⟨b, rfl, q _ hd g1 s1⟩
    | int i => exact ⟨_, rfl, q _ hd g1 s1⟩
    | str z => exact ⟨_, ⟨by rw [sizeLine_eq]; exact hd.1, rfl⟩, q _ hd.2 g1 s1⟩
    | @tup p vs ds hp rs => exact ⟨!vs.isEmpty, .inr (.inl ⟨vs, s1.ok.sqT hp, rfl⟩), by rw [reps_empty rs]; exact q _ hd g1 s1⟩
    | @lst p vs ds hp rs => exact ⟨!vs.isEmpty, .inl ⟨vs, SqL.of (s1.ok.lst hp), rfl⟩, by rw [reps_empty rs]; exact q _ hd g1 s1⟩
    | _ => exact hd.elim

/-! ### subscripts, slices -/
/-- a list's, a tuple's, a text's item -/
@[simp] def fIx : D → D → (D → Prop) → Prop
  | .tup ds, .int i, P => ∃ d, atI ds i = some d ∧ P d
  | .lst ds, .int i, P => ∃ d, atI ds i = some d ∧ P d
  | .str z, .int i, P => z.length ≤ 16777216 ∧ ∃ c, atI z.cps.toList i = some c ∧ P (.str ⟨#[c]⟩)
  | _, _, _ => False
theorem reps_at {vs : List V} {ds : List D} {i : Int} {d : D} (r : Reps K g vs ds) (h : atI ds i = some d) : ∃ v, atI vs i = some v ∧ Rep K g v d := by
  unfold atI at h ⊢
  rw [r.length]
  cases e : ixN ds.length i with
  | none => rw [e] at h; cases h
  | some j =>
    rw [e] at h
    obtain ⟨v, h1, h2⟩ := r.get (show ds[j]? = some d from h)
    exact ⟨v, h1, h2⟩
theorem rel_ix : Rel2 K (rIx K) fIx := by
  intro g0 g x y a b P Q s rx ry w q
  have r0 := Step.refl s.ok
  cases rx with
  | @tup p vs ds hp rs => cases ry with
    | int i =>
      obtain ⟨d, h1, h2⟩ := w
      obtain ⟨v, h3, h4⟩ := reps_at rs h1
      exact .inr (.inl ⟨p, vs, i, v, rfl, rfl, s.ok.sqT hp, h3, q _ h2 _ g r0 h4⟩)
    | _ => exact w.elim
  | @lst p vs ds hp rs => cases ry with
    | int i =>
      obtain ⟨d, h1, h2⟩ := w
      obtain ⟨v, h3, h4⟩ := reps_at rs h1
      exact .inl ⟨p, vs, i, v, rfl, rfl, SqL.of (s.ok.lst hp), h3, q _ h2 _ g r0 h4⟩
    | _ => exact w.elim
  | str z => cases ry with
    | int i =>
      obtain ⟨h0, c, h1, h2⟩ := w
      exact .inr (.inr ⟨z, i, c, rfl, rfl, by rw [sizeLine_eq]; exact h0, h1, q _ h2 _ g r0 (.str _)⟩)
    | _ => exact w.elim
  | _ => cases ry <;> exact w.elim
theorem de_ix {W : WX} {g0 : Gh} {a b : Expr} {ta tb : DT} {pos : Pos} (ha : DE X W g0 a ta) (hb : DE X W g0 b tb) (hs : PlainIx b := by intro _ _; rfl) : DE X W g0 (.Subscript a b pos) (dOp fIx ta tb) :=
  PE.imp (pe_ix ix_seq ha hb hs) fun σ H Q h => lift2 rel_ix h
/-- the ends of a slice -/
def sIx (n d : Nat) (o : Option Int) : Nat := HT.sIx n d o
def cutD (ds : List D) (lo hi : Option Int) : List D := (ds.drop (HT.sIx ds.length 0 lo)).take (HT.sIx ds.length ds.length hi - HT.sIx ds.length 0 lo)
@[simp] def fSl (lo hi : Option Int) : D → (D → Prop) → Prop
  | .tup ds, P => P (.tup (cutD ds lo hi))
  | .lst ds, P => P (.lst (cutD ds lo hi))
  | .str z, P => z.length ≤ 16777216 ∧ P (.str (cutS z lo hi))
  | _, _ => False
abbrev DO := Rho → (Option Int → Prop) → (Str → Prop) → Prop
@[simp] def dNoP : DO := fun _ P _ => P none
@[simp] def onI (P : Int → Prop) : D → Prop
  | .int i => P i
  | _ => False
theorem onI.out {P : Int → Prop} {d : D} (h : onI P d) : ∃ i, d = .int i ∧ P i := by
  cases d with
  | int i => exact ⟨i, rfl, h⟩
  | _ => exact h.elim
@[simp] def dPart (t : DT) : DO := fun ρ P Ex => t ρ (onI fun i => P (some i)) Ex
@[simp] def dSl (t : DT) (lo hi : DO) : DT := fun ρ P Ex => t ρ (fun d => lo ρ (fun l => hi ρ (fun h => fSl l h d P) Ex) Ex) Ex
def liftO (K : PySem.W.Frag) (W : WX) (g0 : Gh) (t : DO) : TO := fun σ H Q => ∃ (g : Gh) (ρ : Rho) (P : Option Int → Prop) (Ex : Str → Prop), g.H = H ∧ Step g0 g ∧ EnvOk K g0 g ρ σ ∧ t ρ P Ex ∧
  (∀ d, P d → ∀ g', Step g g' → Q d g'.H) ∧ XOk K W g σ Ex
theorem PO.imp {e : Option Expr} {t t' : TO} (h : PO X e t) (i : ∀ σ H Q, t' σ H Q → t σ H Q) : PO X e t' := ⟨fun pins s σ H Q I w => h.run pins s σ H Q I (i _ _ _ w)⟩
abbrev DPO (X : Cx) (W : WX) (g0 : Gh) (e : Option Expr) (t : DO) : Prop := PO X e (liftO X.K W g0 t)
section
variable {W : WX} {g0 : Gh} {e : Expr} {lo hi : Option Expr} {t : DT} {tl th : DO} {pos p2 : Pos}
theorem do_none : DPO X W g0 none dNoP := PO.imp po_none fun σ H Q ⟨g, ρ, P, Ex, e, s0, _, t, q, _⟩ => by
  subst e; exact q _ t g (Step.refl s0.ok)
theorem do_some (h : DE X W g0 e t) : DPO X W g0 (some e) (dPart t) := PO.imp (po_some h) fun σ H Q h => by
  obtain ⟨g, ρ, P, Ex, rfl, s0, e, t, q, x⟩ := h
  refine ⟨g, ρ, _, Ex, rfl, s0, e, t, fun d hd v g1 s1 r1 => ?_, x⟩
  obtain ⟨i, rfl, hi⟩ := hd.out
  cases r1
  exact ⟨i, rfl, q _ hi g1 s1⟩
def rSlD (K : PySem.W.Frag) : V → Option Int → Option Int → Hp → VK → Prop := fun x lo hi H Q => rSlA K x lo hi H Q ∨ rSlL K x lo hi H Q ∨ rSlS x lo hi H Q
theorem reps_cut {vs : List V} {ds : List D} (r : Reps K g vs ds) (lo hi : Option Int) : Reps K g (cutV vs lo hi) (cutD ds lo hi) := by
  unfold cutV cutD
  rw [r.length]
  exact (r.drop _).take _
theorem cutD_all {ds : List D} {lo hi : Option Int} (h : HT.sIx ds.length 0 lo = 0 ∧ HT.sIx ds.length ds.length hi = ds.length) : cutD ds lo hi = ds := by
  unfold cutD
  rw [h.1, h.2, List.drop_zero, Nat.sub_zero, List.take_length]
theorem de_sl (he : DE X W g0 e t) (hl : DPO X W g0 lo tl) (hu : DPO X W g0 hi th) : DE X W g0 (.Subscript e (.Slice lo hi none p2) pos) (dSl t tl th) :=
  PE.imp (pe_slice (r := rSlD X.K) (SlR.or sl_tupA (SlR.or sl_list sl_str)) he hl hu) fun σ H Q h => by
    obtain ⟨g, ρ, P, Ex, rfl, s0, e, t, q, x⟩ := h
    refine ⟨g, ρ, _, Ex, rfl, s0, e, t, fun d hd v g1 s1 r1 => ?_, x⟩
    refine ⟨g1, ρ, _, Ex, rfl, s0.trans s1, e.step s1, hd, fun l hl g2 s2 => ?_, x.step s1⟩
    refine ⟨g2, ρ, _, Ex, rfl, s0.trans (s1.trans s2), e.step (s1.trans s2), hl, fun h hh g3 s3 => ?_, x.step (s1.trans s2)⟩
    have s13 := s1.trans (s2.trans s3)
    have r3 := r1.step (s2.trans s3)
    have ok := s13.ok
    cases r3 with
    | @tup p vs ds hp rs =>
      refine .inl ⟨p, vs, rfl, ok.sqT hp, fun hw => ?_, fun hw a ha => ?_⟩
      · have e1 := cutD_all (ds := ds) (lo := l) (hi := h) (by rw [← rs.length]; exact hw)
        have hh' : P (.tup (cutD ds l h)) := hh
        rw [e1] at hh'
        exact q _ hh' _ g3 s13 (.tup hp rs)
      · obtain ⟨s4, r4⟩ := newTup ok ha (reps_cut rs l h)
        exact q _ hh _ _ (s13.trans s4) r4
    | @lst p vs ds hp rs =>
      refine .inr (.inl ⟨p, vs, rfl, SqL.of (ok.lst hp), fun a ha => ?_⟩)
      obtain ⟨s4, r4⟩ := newLst ok ha (reps_cut rs l h)
      exact q _ hh _ _ (s13.trans s4) r4
    | str z => exact .inr (.inr ⟨z, rfl, by rw [sizeLine_eq]; exact hh.1, q _ hh.2 _ g3 s13 (.str _)⟩)
    | _ => exact hh.elim
end

/-! ### calls of built-ins by values -/
/-- what a built-in's rule asks is had from data -/
def RelC (K : PySem.W.Frag) (r : List V → Hp → VK → Prop) (f : List D → (D → Prop) → Prop) : Prop := ∀ (g0 g : Gh) (xs : List V) (a : List D) (P : D → Prop) (Q : VK), Step g0 g → Reps K g xs a → f a P → (∀ d, P d → ∀ v g', Step g g' → Rep K g' v d → Q v g'.H) → r xs g.H Q
/-- .. and what it makes is no one else's -/
def RelF (K : PySem.W.Frag) (r : List V → Hp → VK → Prop) (f : List D → (D → Prop) → Prop) : Prop := ∀ (g0 g : Gh) (xs : List V) (a : List D) (P : D → Prop) (Q : VK), Step g0 g → Reps K g xs a → f a P → (∀ d, P d → ∀ p g', Step g g' → g.H p = none → Own K g0 g' p d → Q (.ref p) g'.H) → r xs g.H Q
@[simp] def dB (f : List D → (D → Prop) → Prop) (ts : DA) : DT := fun ρ P Ex => ts ρ (fun ds => f ds P) Ex
section
variable {W : WX} {g0 : Gh} {ts : DA} {r : List V → Hp → VK → Prop} {f : List D → (D → Prop) → Prop} {x : Str} {id T : String} {e : Expr} {es : List Expr} {p pos : Pos}
theorem liftB_ (hr : RelC X.K r f) {σ : L2.St} {H : Hp} {Q : VK} (h : lift X.K W g0 (dB f ts) σ H Q) : tCB r (liftA X.K W g0 ts) σ H Q := by
  obtain ⟨g, ρ, P, Ex, rfl, s0, e, t, q, x⟩ := h
  exact ⟨g, ρ, _, Ex, rfl, s0, e, t, fun ds hd vs g1 s1 r1 => hr g0 g1 vs ds P Q (s0.trans s1) r1 hd fun d hd v g2 s2 r2 => q d hd v g2 (s1.trans s2) r2, x⟩
theorem liftF_ (hr : RelF X.K r f) {σ : L2.St} {H : Hp} {Q : VK} (h : liftF X.K W g0 (dB f ts) σ H Q) : tCB r (liftA X.K W g0 ts) σ H Q := by
  obtain ⟨g, ρ, P, Ex, rfl, s0, e, t, q, x⟩ := h
  exact ⟨g, ρ, _, Ex, rfl, s0, e, t, fun ds hd vs g1 s1 r1 => hr g0 g1 vs ds P Q (s0.trans s1) r1 hd fun d hd p g2 s2 hp o => q d hd p g2 (s1.trans s2) (s1.none hp) o, x⟩
theorem de_callB (hc : CallR X (.builtin id) r) (hr : RelC X.K r f) (hm : X.mg x = none) (hv : bootBuiltins x = some (.builtin id)) (ha : DPA X W g0 (e :: es) ts) (hg : Gl X x := by rfl) (hn : x ≠ "__name__" := by decide) (hdb : (x == ("__debug__" : Str)) = false := by decide)
    (he : starEach (e :: es) X.env = (false, eval e X.env) :: starEach es X.env := by rfl) (hpl : (backTo pos (starEach es X.env)).any (·.1) = false := by rfl) : DE X W g0 (.Call (.Name x p) (e :: es) [] pos) (dB f ts) :=
  PE.imp (pe_callB hc hg hm hv ha hn hdb he hpl) fun σ H Q h => liftB_ hr h
theorem de_callTy (hc : CallR X (.type T) r) (hr : RelC X.K r f) (hm : X.mg x = none) (hv : bootBuiltins x = some (.type T)) (ha : DPA X W g0 (e :: es) ts) (hg : Gl X x := by rfl) (hn : x ≠ "__name__" := by decide) (hdb : (x == ("__debug__" : Str)) = false := by decide)
    (he : starEach (e :: es) X.env = (false, eval e X.env) :: starEach es X.env := by rfl) (hpl : (backTo pos (starEach es X.env)).any (·.1) = false := by rfl) : DE X W g0 (.Call (.Name x p) (e :: es) [] pos) (dB f ts) :=
  PE.imp (pe_callTy hc hg hm hv ha hn hdb he hpl) fun σ H Q h => liftB_ hr h
theorem df_callTy (hc : CallR X (.type T) r) (hr : RelF X.K r f) (hm : X.mg x = none) (hv : bootBuiltins x = some (.type T)) (ha : DPA X W g0 (e :: es) ts) (hg : Gl X x := by rfl) (hn : x ≠ "__name__" := by decide) (hdb : (x == ("__debug__" : Str)) = false := by decide)
    (he : starEach (e :: es) X.env = (false, eval e X.env) :: starEach es X.env := by rfl) (hpl : (backTo pos (starEach es X.env)).any (·.1) = false := by rfl) : DF X W g0 (.Call (.Name x p) (e :: es) [] pos) (dB f ts) :=
  PE.imp (pe_callTy hc hg hm hv ha hn hdb he hpl) fun σ H Q h => liftF_ hr h
end
/-- one argument -/
@[simp] def on1 (f : D → (D → Prop) → Prop) : List D → (D → Prop) → Prop
  | [d], P => f d P
  | _, _ => False
@[simp] def fLen : D → (D → Prop) → Prop
  | .str z, P => z.length ≤ 16777216 ∧ P (.int z.length)
  | .tup ds, P => P (.int ds.length)
  | .lst ds, P => P (.int ds.length)
  | _, _ => False
theorem rel_len : RelC K (fun xs H Q => ∃ x n, xs = [x] ∧ LenV K x H n ∧ Q (.int n) H) (on1 fLen) := by
  intro g0 g xs a P Q s rs w q
  have r0 := Step.refl s.ok
  cases rs with
  | nil => exact w.elim
  | cons r rs =>
    cases rs with
    | cons _ _ => exact w.elim
    | nil =>
      cases r with
      | str z => exact ⟨_, z.length, rfl, ⟨by rw [sizeLine_eq]; exact w.1, rfl⟩, q _ w.2 _ g r0 (.int _)⟩
      | @tup p vs ds hp rs => exact ⟨_, ds.length, rfl, .inr ⟨vs, s.ok.sqT hp, rs.length.symm⟩, q _ w _ g r0 (.int _)⟩
      | @lst p vs ds hp rs => exact ⟨_, ds.length, rfl, .inl ⟨vs, SqL.of (s.ok.lst hp), rs.length.symm⟩, q _ w _ g r0 (.int _)⟩
      | _ => exact w.elim
/-- truth values, numbers of a list -/
def bools : List D → Option (List Bool)
  | [] => some []
  | .bl b :: r => (bools r).map (b :: ·)
  | _ => none
def nums : List D → Option (List Int)
  | [] => some []
  | .int b :: r => (nums r).map (b :: ·)
  | _ => none
theorem bools_eq : ∀ {ds : List D} {bs : List Bool}, bools ds = some bs → ds = bs.map D.bl
  | [], bs, h => by
    have e : [] = bs := Option.some.inj h
    subst e; rfl
  | .bl b :: r, bs, h => by
    have h' : (bools r).map (b :: ·) = some bs := h
    cases e : bools r with
    | none => rw [e] at h'; cases h'
    | some cs =>
      rw [e] at h'
      have e2 : b :: cs = bs := Option.some.inj h'
      subst e2
      rw [bools_eq e]; rfl
  | .non :: _, _, h => by cases h
  | .int _ :: _, _, h => by cases h
  | .str _ :: _, _, h => by cases h
  | .tup _ :: _, _, h => by cases h
  | .lst _ :: _, _, h => by cases h
  | .dS _ :: _, _, h => by cases h
  | .dT _ :: _, _, h => by cases h
  | .ch _ _ :: _, _, h => by cases h
  | .drw :: _, _, h => by cases h
  | .scr _ :: _, _, h => by cases h
  | .adr _ :: _, _, h => by cases h
theorem nums_eq : ∀ {ds : List D} {bs : List Int}, nums ds = some bs → ds = bs.map D.int
  | [], bs, h => by
    have e : [] = bs := Option.some.inj h
    subst e; rfl
  | .int b :: r, bs, h => by
    have h' : (nums r).map (b :: ·) = some bs := h
    cases e : nums r with
    | none => rw [e] at h'; cases h'
    | some cs =>
      rw [e] at h'
      have e2 : b :: cs = bs := Option.some.inj h'
      subst e2
      rw [nums_eq e]; rfl
  | .non :: _, _, h => by cases h
  | .bl _ :: _, _, h => by cases h
  | .str _ :: _, _, h => by cases h
  | .tup _ :: _, _, h => by cases h
  | .lst _ :: _, _, h => by cases h
  | .dS _ :: _, _, h => by cases h
  | .dT _ :: _, _, h => by cases h
  | .ch _ _ :: _, _, h => by cases h
  | .drw :: _, _, h => by cases h
  | .scr _ :: _, _, h => by cases h
  | .adr _ :: _, _, h => by cases h
theorem bools_map : ∀ (bs : List Bool), bools (bs.map D.bl) = some bs
  | [] => rfl
  | b :: r => by show (bools (r.map D.bl)).map (b :: ·) = _; rw [bools_map r]; rfl
theorem nums_map : ∀ (bs : List Int), nums (bs.map D.int) = some bs
  | [] => rfl
  | b :: r => by show (nums (r.map D.int)).map (b :: ·) = _; rw [nums_map r]; rfl
def fAll : D → (D → Prop) → Prop
  | .lst ds, P => ∃ bs, bools ds = some bs ∧ P (.bl (bs.all id))
  | _, _ => False
def fSum : D → (D → Prop) → Prop
  | .lst ds, P => ∃ ns, nums ds = some ns ∧ P (.int ns.sum)
  | _, _ => False
def fMaxL : D → (D → Prop) → Prop
  | .lst ds, P => ∃ ns, nums ds = some ns ∧ ns ≠ [] ∧ ∀ m ∈ ns, (∀ y ∈ ns, y ≤ m) → P (.int m)
  | _, _ => False
theorem rel_all : RelC K (rAll K) (on1 fAll) := by
  intro g0 g xs a P Q s rs w q
  cases rs with
  | nil => exact w.elim
  | cons r rs =>
    cases rs with
    | cons _ _ => exact w.elim
    | nil =>
      cases r with
      | @lst p vs ds hp rs =>
        obtain ⟨bs, h1, h2⟩ := w
        have e := bools_eq h1
        subst e
        exact ⟨p, bs, rfl, SqL.of (by rw [← bls_of_reps rs]; exact s.ok.lst hp), q _ h2 _ g (Step.refl s.ok) (.bl _)⟩
      | _ => exact w.elim
theorem rel_sum : RelC K (rSum K) (on1 fSum) := by
  intro g0 g xs a P Q s rs w q
  cases rs with
  | nil => exact w.elim
  | cons r rs =>
    cases rs with
    | cons _ _ => exact w.elim
    | nil =>
      cases r with
      | @lst p vs ds hp rs =>
        obtain ⟨bs, h1, h2⟩ := w
        have e := nums_eq h1
        subst e
        exact ⟨p, bs, rfl, SqL.of (by rw [← ints_of_reps rs]; exact s.ok.lst hp), q _ h2 _ g (Step.refl s.ok) (.int _)⟩
      | _ => exact w.elim
theorem rel_maxL : RelC K (rMax K) (on1 fMaxL) := by
  intro g0 g xs a P Q s rs w q
  cases rs with
  | nil => exact w.elim
  | cons r rs =>
    cases rs with
    | cons _ _ => exact w.elim
    | nil =>
      cases r with
      | @lst p vs ds hp rs =>
        obtain ⟨bs, h1, h0, h2⟩ := w
        have e := nums_eq h1
        subst e
        exact ⟨p, bs, rfl, SqL.of (by rw [← ints_of_reps rs]; exact s.ok.lst hp), List.length_pos_iff.mpr h0, fun m hm hy => q _ (h2 m hm hy) _ g (Step.refl s.ok) (.int _)⟩
      | _ => exact w.elim
@[simp] def fMax2 : List D → (D → Prop) → Prop
  | [.int i, .int j], P => P (.int (max i j))
  | _, _ => False
theorem reps2 {xs : List V} {a : List D} (r : Reps K g xs a) {n : Nat} (h : a.length = n) : xs.length = n := r.length.trans h
theorem rel_max2 : RelC K (fun xs H Q => ∃ i j, xs = [.int i, .int j] ∧ Q (.int (if j > i then j else i)) H) fMax2 := by
  intro g0 g xs a P Q s rs w q
  unfold fMax2 at w
  split at w
  · rename_i i j
    cases rs with
    | cons r1 rs => cases rs with
      | cons r2 rs =>
        cases rs; cases r1; cases r2
        refine ⟨i, j, rfl, ?_⟩
        have e : (if j > i then j else i) = max i j := by split <;> omega
        rw [e]
        exact q _ w _ g (Step.refl s.ok) (.int _)
  · exact w.elim
@[simp] def fAbs : D → (D → Prop) → Prop
  | .int i, P => P (.int (i.natAbs : Int))
  | _, _ => False
theorem rel_abs : RelC K (fun xs H Q => ∃ i, xs = [.int i] ∧ Q (.int (if i < 0 then -i else i)) H) (on1 fAbs) := by
  intro g0 g xs a P Q s rs w q
  cases rs with
  | nil => exact w.elim
  | cons r rs =>
    cases rs with
    | cons _ _ => exact w.elim
    | nil =>
      cases r with
      | int i =>
        refine ⟨i, rfl, ?_⟩
        have e : (if i < 0 then -i else i) = (i.natAbs : Int) := by split <;> omega
        rw [e]
        exact q _ w _ g (Step.refl s.ok) (.int _)
      | _ => exact w.elim
@[simp] def fInt : D → (D → Prop) → Prop
  | .int i, P => P (.int i)
  | .bl b, P => P (.int (if b then 1 else 0))
  | _, _ => False
theorem rel_int : RelC K (fun xs H Q => (∃ i, xs = [.int i] ∧ Q (.int i) H) ∨ ∃ k, xs = [.bl k] ∧ Q (.int (if k then 1 else 0)) H) (on1 fInt) := by
  intro g0 g xs a P Q s rs w q
  cases rs with
  | nil => exact w.elim
  | cons r rs =>
    cases rs with
    | cons _ _ => exact w.elim
    | nil =>
      cases r with
      | int i => exact .inl ⟨i, rfl, q _ w _ g (Step.refl s.ok) (.int _)⟩
      | bl b => exact .inr ⟨b, rfl, q _ w _ g (Step.refl s.ok) (.int _)⟩
      | _ => exact w.elim
/-- list(..), tuple(..) of a list or tuple -/
@[simp] def fList : D → (D → Prop) → Prop
  | .lst ds, P => P (.lst ds)
  | .tup ds, P => P (.lst ds)
  | _, _ => False
@[simp] def fTuple : D → (D → Prop) → Prop
  | .lst ds, P => P (.tup ds)
  | .tup ds, P => P (.tup ds)
  | _, _ => False
theorem relF_list : RelF K (fun xs H Q => ∃ p ys, xs = [.ref p] ∧ (SqL K H p ys ∨ SqT K H p ys) ∧ ∀ l, H l = none → Q (.ref l) (upd H l (.lst ys))) (on1 fList) := by
  intro g0 g xs a P Q s rs w q
  cases rs with
  | nil => exact w.elim
  | cons r rs =>
    cases rs with
    | cons _ _ => exact w.elim
    | nil =>
      cases r with
      | @lst p vs ds hp rs =>
        refine ⟨p, vs, rfl, .inl (SqL.of (s.ok.lst hp)), fun l hl => ?_⟩
        obtain ⟨s2, o⟩ := ownLst s hl rs
        exact q _ w l _ s2 hl o
      | @tup p vs ds hp rs =>
        refine ⟨p, vs, rfl, .inr (s.ok.sqT hp), fun l hl => ?_⟩
        obtain ⟨s2, o⟩ := ownLst s hl rs
        exact q _ w l _ s2 hl o
      | _ => exact w.elim
theorem relC_list : RelC K (fun xs H Q => ∃ p ys, xs = [.ref p] ∧ (SqL K H p ys ∨ SqT K H p ys) ∧ ∀ l, H l = none → Q (.ref l) (upd H l (.lst ys))) (on1 fList) := by
  intro g0 g xs a P Q s rs w q
  cases rs with
  | nil => exact w.elim
  | cons r rs =>
    cases rs with
    | cons _ _ => exact w.elim
    | nil =>
      cases r with
      | @lst p vs ds hp rs =>
        refine ⟨p, vs, rfl, .inl (SqL.of (s.ok.lst hp)), fun l hl => ?_⟩
        obtain ⟨s2, o⟩ := newLst s.ok hl rs
        exact q _ w _ _ s2 o
      | @tup p vs ds hp rs =>
        refine ⟨p, vs, rfl, .inr (s.ok.sqT hp), fun l hl => ?_⟩
        obtain ⟨s2, o⟩ := newLst s.ok hl rs
        exact q _ w _ _ s2 o
      | _ => exact w.elim
theorem relC_tuple : RelC K (fun xs H Q => ∃ p ys, xs = [.ref p] ∧ ((SqL K H p ys ∧ ∀ l, H l = none → Q (.ref l) (upd H l (.tup ys))) ∨ (SqT K H p ys ∧ Q (.ref p) H))) (on1 fTuple) := by
  intro g0 g xs a P Q s rs w q
  cases rs with
  | nil => exact w.elim
  | cons r rs =>
    cases rs with
    | cons _ _ => exact w.elim
    | nil =>
      cases r with
      | @lst p vs ds hp rs =>
        refine ⟨p, vs, rfl, .inl ⟨SqL.of (s.ok.lst hp), fun l hl => ?_⟩⟩
        obtain ⟨s2, o⟩ := newTup s.ok hl rs
        exact q _ w _ _ s2 o
      | @tup p vs ds hp rs => exact ⟨p, vs, rfl, .inr ⟨s.ok.sqT hp, q _ w _ g (Step.refl s.ok) (.tup hp rs)⟩⟩
      | _ => exact w.elim
end
end AU

/-! AuOps3: isinstance, f-strings, comprehensions, what changes a list of one's own. -/
namespace AU
open PySem L2 PySem.Spec PyProof.Rows

/-! ### isinstance -/
@[simp] def tyN : D → String
  | .non => "NoneType"
  | .bl _ => "bool"
  | .int _ => "int"
  | .str _ => "str"
  | .tup _ => "tuple"
  | .lst _ => "list"
  | .dS _ => "dict"
  | .dT _ => "dict"
  | .ch _ _ => ""
  | .drw => ""
  | .scr _ => ""
  | .adr _ => ""
@[simp] def isN (a b : String) : Bool := a == b || (a == "bool" && b == "int")
def tyNs : List String := ["NoneType", "bool", "int", "str", "tuple", "list", "dict"]
theorem kit_all : (tyNs.all fun a => tyNs.all fun b => kitB a b == some (isN a b)) = true := by decide +kernel
theorem kit_at {a b : String} (ha : a ∈ tyNs) (hb : b ∈ tyNs) : kitB a b = some (isN a b) := beq_iff_eq.mp (List.all_eq_true.mp (List.all_eq_true.mp kit_all a ha) b hb)
@[simp] def known (d : D) : Bool := tyN d != ""
theorem known_mem {d : D} (h : known d = true) : tyN d ∈ tyNs := by
  cases d <;> first | (simp [tyN, tyNs]; done) | (exact absurd h (by simp [known, tyN]))
@[simp] def fIsi (T : String) : D → (D → Prop) → Prop := fun d P => known d = true ∧ P (.bl (isN (tyN d) T))
section
variable {X : Cx} {W : WX} {g0 : Gh} {pins : List (Addr × Obj)} {σ : L2.St} {s : Shared} {g : Gh}
/-- what the library asks of data's value -/
theorem rep_kit {v : V} {u : Value} {d : D} (I : Inv X pins σ g.H s) (h : Hold g) (r : Rep X.K g v d) (ru : RelV v u) (hk : known d = true) : ∃ P : Heap → Prop, PySem.W.KitX X.K u (.type (tyN d)) P ∧ P s.heap ∧ u ≠ .builtin "__main__.__loader__#opaque" := by
  cases r with
  | non => exact kit_of I ru (.base .non)
  | bl b => exact kit_of I ru (.base (.bl b))
  | int i => exact kit_of I ru (.base (.int i))
  | str x => exact kit_of I ru (.base (.str x))
  | @tup a vs ds ha rs =>
    rcases h.sqT ha with (q | ⟨o, q⟩) | ⟨o, its, n, q, c, _⟩
    · exact kit_of I ru (.base (.tup q))
    · exact kit_of I ru (.fTuple q)
    · exact kit_of I ru (.kTuple q c)
  | @lst a vs ds ha rs => exact kit_of I ru (.base (.lst (h.lst ha)))
  | @dS a kvs ds ha rs =>
    rcases h.le _ _ ha with q | ⟨_, ob, q⟩
    · exact kit_of I ru (.base (.dK q))
    · exact kit_of I ru (.fDict q)
  | @dT a kvs ds ha rs =>
    rcases h.le _ _ ha with q | ⟨_, ob, q⟩
    · exact kit_of I ru (.base (.dT q))
    · cases (show u = Value.ref a from ru)
      obtain ⟨_, _, _, xs, _, o, es, ep, h1, h2, _⟩ := (show ObjOk X.prog X.w g.H s.heap a (.frz ob (.dT kvs)) from I.hok a _ q)
      exact ⟨_, PySem.W.kitx_dict, ⟨o, h1, h2.1⟩, fun z => nomatch z⟩
  | ch _ _ _ => exact absurd hk (by simp [known, tyN])
  | drw _ => exact absurd hk (by simp [known, tyN])
  | scr _ _ => exact absurd hk (by simp [known, tyN])
  | adr _ => exact absurd hk (by simp [known, tyN])
/-- isinstance(e, T), T a built-in class -/
theorem de_isi (T : String) {x : Str} {e : Expr} {t : DT} {p p2 pos : Pos} (B : Bi X.mg) (he : DE X W g0 e t) (hm : X.mg x = none) (hv : bootBuiltins x = some (.type T) := by decide +kernel) (hT : T ∈ tyNs := by decide) (hg : Gl X "isinstance" := by rfl) (hg2 : Gl X x := by rfl)
    (hs : starEach [e, Expr.Name x p2] X.env = (false, eval e X.env) :: starEach [Expr.Name x p2] X.env := by rfl) (hs2 : starEach [Expr.Name x p2] X.env = (false, eval (Expr.Name x p2) X.env) :: starEach [] X.env := by rfl) (hn : x ≠ "__name__" := by decide) (hdb : (x == ("__debug__" : Str)) = false := by decide)
    (hpl : (backTo pos (starEach [Expr.Name x p2] X.env)).any (·.1) = false := by rfl) : DE X W g0 (.Call (.Name "isinstance" p) [e, .Name x p2] [] pos) (fun ρ P Ex => t ρ (fun d => fIsi T d P) Ex) := by
  refine ⟨fun pins s σ H Q I h => ?_⟩
  obtain ⟨g, ρ, P, Ex, rfl, s0, e0, w, q, x0⟩ := h
  have hb : bootBuiltins ("isinstance" : Str) = some (.builtin "isinstance") := by decide +kernel
  refine wpAny_Call_Name_kw (ld_blt I hg (B.at_ "isinstance") hb ?_)
  have hc : PE X (.Name x p2) (tC (.ty T)) := pe_bltn hg2 hm hv rfl hn hdb
  have ha := pa_cons he (pa_cons hc pa_nil hs2) hs
  refine PyProof.Rows.callWith_builtin1 (thn (ha.run pos pins s σ g.H (fun vs H1 => ∃ v d g1, vs = [v, .ty T] ∧ g1.H = H1 ∧ Step g g1 ∧ Rep X.K g1 v d ∧ fIsi T d P) I
    ⟨g, ρ, _, Ex, rfl, s0, e0, w, fun d hd v g1 s1 r1 => ⟨v, d, g1, rfl, rfl, s1, r1, hd⟩, x0⟩) fun us s1 hh => ?_) hs hpl
  obtain ⟨vs, H1, I1, r1, v, d, g1, rfl, rfl, s1', rd, hk, hP⟩ := hh
  obtain ⟨u1, u2, rfl, ru, rt⟩ := vals2 r1
  cases (show u2 = Value.type T from rt)
  obtain ⟨Z, k, p, hx⟩ := rep_kit I1 s1'.ok rd ru hk
  exact PySem.W.kia_one k I1.kIn p (kit_ty (kit_at (known_mem hk) hT)) hx fun tk => ⟨.bl _, g1.H, I1.tok tk, rfl, q _ hP _ g1 s1' (.bl _)⟩

/-! ### f-strings -/
@[simp] def fFmt : D → (D → Prop) → Prop
  | .str y, P => y.length ≤ 16777216 ∧ P (.str y)
  | _, _ => False
@[simp] def dFmt (t : DT) : DT := fun ρ P Ex => t ρ (fun d => fFmt d P) Ex
theorem de_fmt {e : Expr} {t : DT} {pos : Pos} (he : DE X W g0 e t) : DE X W g0 (.FormattedValue e (-1) none pos) (dFmt t) := PE.imp (pe_fmt he) fun σ H Q h => by
  obtain ⟨g, ρ, P, Ex, rfl, s0, e, w, q, x⟩ := h
  refine ⟨g, ρ, _, Ex, rfl, s0, e, w, fun d hd v g1 s1 r1 => ?_, x⟩
  cases r1 with
  | str y => exact .inl ⟨y, rfl, by rw [sizeLine_eq]; exact hd.1, q _ hd.2 _ g1 s1 (.str y)⟩
  | _ => exact hd.elim
/-- the parts of an f-string -/
inductive DJ (X : Cx) (W : WX) (g0 : Gh) : List Expr → List DT → Prop where
  | nil : DJ X W g0 [] []
  | cons {e : Expr} {t : DT} {es : List Expr} {ts : List DT} (h : DE X W g0 e t) (r : DJ X W g0 es ts) : DJ X W g0 (e :: es) (t :: ts)
@[simp] def dJs : List DT → Str → DT
  | [], acc => fun _ P _ => P (.str acc)
  | t :: ts, acc => fun ρ P Ex => t ρ (fun d => match d with
    | .str y => (acc ++ y).length ≤ 16777216 ∧ dJs ts (acc ++ y) ρ P Ex
    | _ => False) Ex
theorem dj_pj {es : List Expr} {ts : List DT} (h : DJ X W g0 es ts) : PJ X es (ts.map (lift X.K W g0)) := by
  induction h with
  | nil => exact .nil
  | cons h r ih => exact .cons h ih
theorem dj_read {Q : VK} {σ : L2.St} : ∀ {ts : List DT} {acc : Str} {g : Gh} {ρ : Rho} {P : D → Prop} {Ex : Str → Prop}, Step g0 g → EnvOk X.K g0 g ρ σ → dJs ts acc ρ P Ex → (∀ d, P d → ∀ v g', Step g g' → Rep X.K g' v d → Q v g'.H) → XOk X.K W g σ Ex →
    tJs (ts.map (lift X.K W g0)) acc σ g.H fun out H1 => Q (.str out) H1
  | [], acc, g, ρ, P, Ex, s0, e, w, q, x => q _ w _ g (Step.refl s0.ok) (.str _)
  | t :: ts, acc, g, ρ, P, Ex, s0, e, w, q, x => by
    refine ⟨g, ρ, _, Ex, rfl, s0, e, w, fun d hd v g1 s1 r1 => ?_, x⟩
    cases r1 with
    | str y => exact ⟨y, rfl, by rw [sizeLine_eq]; exact hd.1, dj_read (s0.trans s1) (e.step s1) hd.2 (fun d hd v g2 s2 r2 => q d hd v g2 (s1.trans s2) r2) (x.step s1)⟩
    | _ => exact hd.elim
theorem de_joined {v1 v2 : Expr} {rest : List Expr} {ts : List DT} {pos : Pos} (h : DJ X W g0 (v1 :: v2 :: rest) ts) : DE X W g0 (.JoinedStr (v1 :: v2 :: rest) pos) (dJs ts Str.empty) :=
  PE.imp (pe_joined (dj_pj h)) fun σ H Q h => by
    obtain ⟨g, ρ, P, Ex, rfl, s0, e, w, q, x⟩ := h
    exact dj_read s0 e w q x

/-! ### [e for x in xs if t] -/
@[simp] def wipeD (ρ : Rho) : List Nat → Rho
  | [] => ρ
  | v :: vs => (wipeD ρ vs).set v .un
theorem EnvOk.wipe {K : PySem.W.Frag} {g0 g : Gh} {ρ : Rho} {σ : L2.St} (e : EnvOk K g0 g ρ σ) : ∀ vs : List Nat, EnvOk K g0 g (wipeD ρ vs) (L2.wipe σ vs)
  | [] => e
  | v :: vs => by
    have ih := EnvOk.wipe e vs
    show EnvOk K g0 g ((wipeD ρ vs).set v .un) ((L2.wipe σ vs).set v none)
    have un : ∀ (j : Nat) (c : Cell), ((wipeD ρ vs).set v .un)[j]? = some c → (c = .un ∧ v = j) ∨ (v ≠ j ∧ (wipeD ρ vs)[j]? = some c) := fun j c h => by
      by_cases hj : v = j
      · subst hj
        by_cases hb : v < (wipeD ρ vs).length
        · rw [List.getElem?_set_self hb] at h
          exact .inl ⟨(Option.some.inj h).symm, rfl⟩
        · rw [List.getElem?_eq_none (by simpa using hb)] at h; cases h
      · rw [List.getElem?_set_ne hj] at h
        exact .inr ⟨hj, h⟩
    refine ⟨by rw [List.length_set, List.length_set, ih.len], fun j d h => ?_, fun j d h => ?_, fun j k d e' p hjk h1 h2 h3 h4 => ?_⟩
    · rcases un j _ h with ⟨h, _⟩ | ⟨hj, h⟩
      · cases h
      · obtain ⟨w, a, b⟩ := ih.fz j d h
        exact ⟨w, by rw [List.getElem?_set_ne hj]; exact a, b⟩
    · rcases un j _ h with ⟨h, _⟩ | ⟨hj, h⟩
      · cases h
      · obtain ⟨w, a, b⟩ := ih.ow j d h
        exact ⟨w, by rw [List.getElem?_set_ne hj]; exact a, b⟩
    · rcases un j _ h1 with ⟨h, _⟩ | ⟨hj, h1⟩
      · cases h
      · rcases un k _ h2 with ⟨h, _⟩ | ⟨hk, h2⟩
        · cases h
        · rw [List.getElem?_set_ne hj] at h3
          rw [List.getElem?_set_ne hk] at h4
          exact ih.ap j k d e' p hjk h1 h2 h3 h4
abbrev noX : Str → Prop := fun _ => False
abbrev noW : WX := fun _ _ _ _ => False
def lcN (gt : DG) (tc : DB) (te : DT) (ρ : Rho) : List D → List D → (List D → Prop) → Prop
  | [], acc, P => P acc
  | d :: ds, acc, P => gt d ρ fun ρ1 => tc ρ1 (fun b => if b = true then te ρ1 (fun y => acc.length < 16777216 ∧ lcN gt tc te ρ ds (acc ++ [y]) P) noX else lcN gt tc te ρ ds acc P) noX
@[simp] def dYes : DB := fun _ P _ => P true
@[simp] def dLc (t : DIt) (gt : DG) (tc : DB) (te : DT) (sl : List Nat) : DT := fun ρ P Ex => t ρ (fun ds => lcN gt tc te (wipeD ρ sl) ds [] fun acc => P (.lst acc)) Ex
abbrev DTs (X : Cx) (W : WX) (g0 : Gh) (ifs : List Expr) (t : DB) : Prop := PTs X ifs (liftB X.K W g0 t)
theorem dts_nil : DTs X W g0 [] dYes := ⟨fun pins s σ H Q I h => pts_nil.run pins s σ H Q I (by
  obtain ⟨g, ρ, P, Ex, rfl, s0, e, w, q, x⟩ := h
  exact q _ w g (Step.refl s0.ok))⟩
theorem dts_one {c : Expr} {t : DB} (h : DTt X W g0 c t) : DTs X W g0 [c] t := pts_one h
/-- the context of a comprehension's block -/
abbrev blk (X : Cx) (s : Shared) (H : Hp) (scope : Scope) (C : Addr) (cl : List (Str × Addr)) (fp : List Addr) : Cx := X.blk s H scope (compEnvC scope cl C X.env) fp
theorem Cn.blk {k : Nat} (C : Cn X W k) (s : Shared) (H : Hp) (scope : Scope) (Ca : Addr) (cl : List (Str × Addr)) (fp : List Addr) : Cn (AU.blk X s H scope Ca cl fp) noW k :=
  ⟨fun _ _ ⟨_, _, _, _, _, _, _, _, _, _, _, _, _, _, _, _, w⟩ => w.elim, PassesOwn.never, C.hr, C.cm, C.nd⟩
/-- what stands while the list D grows -/
structure LcI (K : PySem.W.Frag) (gb : Gh) (D : Addr) (vs : List V) (ds : List AU.D) (g : Gh) : Prop where
  st : Step gb g
  ng : g.G D = none
  nm : D ∉ g.M
  at_ : g.H D = some (.lst vs)
  rs : Reps K g vs ds
theorem LcI.step {K : PySem.W.Frag} {gb g g' : Gh} {D : Addr} {vs : List V} {ds : List AU.D} (i : LcI K gb D vs ds g) (s : Step g g') : LcI K gb D vs ds g' where
  st := i.st.trans s
  ng := by
    cases q : g'.G D with
    | none => rfl
    | some z =>
      rcases s.gn D z q with h | h | h
      · rw [i.ng] at h; cases h
      · rw [i.at_] at h; cases h
      · rcases s.ok.le D z q with y | ⟨y, ob, _⟩
        · rw [s.hs D _ i.at_ i.nm] at y; cases y; exact h.elim
        · cases z <;> first | exact y.elim | exact h.elim
  nm := fun hm => by
    rcases s.mn D hm with h | h
    · exact i.nm h
    · rw [i.at_] at h; cases h
  at_ := s.hs D _ i.at_ i.nm
  rs := i.rs.step s
theorem LcI.add {K : PySem.W.Frag} {gb g : Gh} {D : Addr} {vs : List V} {ds : List AU.D} {v : V} {d : AU.D} (n0 : gb.H D = none) (i : LcI K gb D vs ds g) (r : Rep K g v d) : LcI K gb D (vs ++ [v]) (ds ++ [d]) (g.own D (.lst (vs ++ [v]))) := by
  have ne : ∀ a o, g.G a = some o → a ≠ D := fun a o h => ne_of_none h i.ng
  have nM : ∀ a ∈ g.M, a ≠ D := fun a h z => i.nm (z ▸ h)
  have up : ∀ a, a ≠ D → upd g.H D (.lst (vs ++ [v])) a = g.H a := fun a h => upd_ne h
  refine ⟨⟨i.st.gs, i.st.gn, i.st.ms, i.st.mn, fun a o h hm => ?_, ⟨fun a o h => ?_, i.st.ok.dis, fun a hm => ?_⟩⟩, i.ng, i.nm, upd_same, Reps.up (g := g) (g' := g.own D (.lst (vs ++ [v]))) (fun _ _ h => h) (fun _ h => h) (Reps.append i.rs (.cons r .nil))⟩
  · show upd g.H D (.lst (vs ++ [v])) a = some o
    rw [up a (ne_of_none h n0)]
    exact i.st.hs a o h hm
  · have := i.st.ok.le a o h
    show upd g.H D (.lst (vs ++ [v])) a = some o ∨ _
    rw [up a (ne a o h)]
    rcases this with q | ⟨q, ob, q2⟩
    · exact .inl q
    · refine .inr ⟨q, ob, ?_⟩
      show upd g.H D (.lst (vs ++ [v])) a = _
      rw [up a (ne a o h)]; exact q2
  · obtain ⟨l, ns, j, c, st, h1, h2⟩ := i.st.ok.mok a hm
    refine ⟨l, ns, j, c, st, ?_, h2⟩
    show upd g.H D (.lst (vs ++ [v])) a = _
    rw [up a (nM a hm)]; exact h1
/-- no name's own thing is at D -/
def NoOw (ρ : Rho) (σ : L2.St) (D : Addr) : Prop := ∀ (i : Nat) (d : AU.D), ρ[i]? = some (.ow d) → σ[i]? ≠ some (some (.ref D))
theorem EnvOk.free {K : PySem.W.Frag} {g0 g : Gh} {ρ : Rho} {σ : L2.St} {D : Addr} (e : EnvOk K g0 g ρ σ) (h : g.H D = none) : NoOw ρ σ D := fun i d h1 h2 => by
  obtain ⟨p, a, o⟩ := e.ow i d h1
  rw [h2] at a
  cases a
  obtain ⟨u, hu, _⟩ := OwnH.some o.at_
  rw [h] at hu; cases hu
theorem EnvOk.put {K : PySem.W.Frag} {g0 g : Gh} {ρ : Rho} {σ : L2.St} {D : Addr} {o : HO} (e : EnvOk K g0 g ρ σ) (h : NoOw ρ σ D) : EnvOk K g0 (g.own D o) ρ σ := by
  have up : ∀ {v d}, Rep K g v d → Rep K (g.own D o) v d := fun r => Rep.up (g := g) (g' := g.own D o) (fun _ _ h => h) (fun _ h => h) r
  refine ⟨e.len, fun i d h => let ⟨v, a, b⟩ := e.fz i d h; ⟨v, a, up b⟩, fun i d h1 => ?_, e.ap⟩
  obtain ⟨p, a, ow⟩ := e.ow i d h1
  have np : p ≠ D := fun z => h i d h1 (z ▸ a)
  refine ⟨p, a, ow.n0, ow.ng, ow.nm, ?_⟩
  have at_ := ow.at_
  have hp : ∀ u, g.H p = some u → upd g.H D o p = some u := fun u hu => by rw [upd_ne np]; exact hu
  cases d with
  | lst ds => obtain ⟨vs, z, r⟩ := at_; exact ⟨vs, hp _ z, Reps.up (g := g) (g' := g.own D o) (fun _ _ h => h) (fun _ h => h) r⟩
  | dS ds => obtain ⟨vs, z, r⟩ := at_; exact ⟨vs, hp _ z, RepK.up (g := g) (g' := g.own D o) (fun _ _ h => h) (fun _ h => h) r⟩
  | dT ds => obtain ⟨vs, z, r⟩ := at_; exact ⟨vs, hp _ z, RepT.up (g := g) (g' := g.own D o) (fun _ _ h => h) (fun _ h => h) r⟩
  | _ => exact at_.elim
/-- what stands ahead of a turn -/
def LcW (K : PySem.W.Frag) (gb g1 : Gh) (ρ : Rho) (σ : L2.St) (gt : DG) (tc : DB) (te : DT) (D : Addr) (ds : List AU.D) (P : List AU.D → Prop) (H : Hp) : Prop :=
  ∃ (g : Gh) (vs : List V) (acc : List AU.D), g.H = H ∧ LcI K g1 D vs acc g ∧ EnvOk K gb g ρ σ ∧ NoOw ρ σ D ∧ lcN gt tc te ρ ds acc P
theorem lc_main {J : It} {gb g1 : Gh} {ρ : Rho} {σ : L2.St} {sl : List Nat} {gt : DG} {tc : DB} {te : DT} {ds : List AU.D} {P : List AU.D → Prop} {Qd : Hp → Prop} {D : Addr} (s : Step gb g1) (e : EnvOk X.K gb g1 ρ σ) (y : Yields X.K J gb ds) (hD : g1.H D = none)
    (w : lcN gt tc te ρ ds [] P) (q : ∀ vs acc g, LcI X.K g1 D vs acc g → P acc → Qd g.H) (wi : L2.wipe σ sl = σ) :
    ∃ Wi : Nat → Nat → Hp → Prop, (∃ m, Wi 0 m (upd g1.H D (.lst []))) ∧ ∀ i m H, Wi i m H → (J.stop i H ∧ Qd H) ∨ (J.go i H ∧ ∃ Nx : Hp → Prop, (∀ H', Nx H' → ∃ m', m' < m ∧ Wi (i + 1) m' H') ∧
      ∀ x H', J.yld i H x H' → ∃ gb, liftG X.K gb sl gt x σ H' fun σ2 H2 => L2.wipe σ2 sl = σ ∧ ∃ gb, liftB X.K noW gb tc σ2 H2 fun b H3 =>
        if b = true then ∃ gb, lift X.K noW gb te σ2 H3 fun y H4 => ∃ acc, H4 D = some (.lst acc) ∧ acc.length < sizeLine ∧ Nx (upd H4 D (.lst (acc ++ [y]))) else Nx H3) := by
  have s1 := s.ok.own (.lst []) hD
  refine ⟨fun i m H => m = ds.length - i ∧ i ≤ ds.length ∧ LcW X.K gb g1 ρ σ gt tc te D (ds.drop i) P H, ⟨_, rfl, Nat.zero_le _, g1.own D (.lst []), [], [], rfl,
    ⟨s1, s.ok.free hD, s.ok.notM hD, upd_same, .nil⟩, e.step s1, e.free hD, by rw [List.drop_zero]; exact w⟩, ?_⟩
  rintro i m H ⟨rfl, hi, g, vs, acc, rfl, li, e, no, w⟩
  obtain ⟨y1, y2⟩ := y g (s.trans li.st) i
  by_cases hlt : i < ds.length
  · rw [List.drop_eq_getElem_cons hlt] at w
    obtain ⟨go, yl⟩ := y1 _ (List.getElem?_eq_getElem hlt)
    refine .inr ⟨go, fun H => LcW X.K gb g1 ρ σ gt tc te D (ds.drop (i + 1)) P H, fun H' f => ⟨_, by omega, rfl, hlt, f⟩, fun x H' hx => ?_⟩
    obtain ⟨g', rfl, s', r'⟩ := yl x H' hx
    have l' := li.step s'
    refine ⟨gb, g', ρ, _, _, rfl, s.trans l'.st, e.step s', r', w, fun ρ3 σ3 e3 z3 w3 => ⟨z3.trans wi, gb, g', ρ3, _, _, rfl, s.trans l'.st, e3, w3, fun b hb g4 s4 => ?_, fun _ z => z.elim⟩⟩
    have l4 := l'.step s4
    have eb : EnvOk X.K gb g4 ρ σ := (e.step s').step s4
    cases b with
    | true =>
      rw [if_pos rfl] at hb
      dsimp only
      rw [if_pos rfl]
      refine ⟨gb, g4, ρ3, _, _, rfl, s.trans l4.st, e3.step s4, hb, fun yd hy v g5 s5 r5 => ?_, fun _ z => z.elim⟩
      have l5 := l4.step s5
      exact ⟨vs, l5.at_, by rw [l5.rs.length, sizeLine_eq]; exact hy.1, g5.own D (.lst (vs ++ [v])), vs ++ [v], acc ++ [yd], rfl, l5.add hD r5, (eb.step s5).put no, no, hy.2⟩
    | false =>
      rw [if_neg Bool.false_ne_true] at hb
      dsimp only
      rw [if_neg Bool.false_ne_true]
      exact ⟨g4, vs, acc, rfl, l4, eb, no, hb⟩
  · have h0 : ds.length ≤ i := Nat.le_of_not_lt hlt
    rw [List.drop_of_length_le h0] at w
    exact .inl ⟨y2 h0, q _ _ _ li w⟩

theorem wipe_wipe (σ : L2.St) (vs : List Nat) : L2.wipe (L2.wipe σ vs) vs = L2.wipe σ vs := by
  apply List.ext_getElem?
  intro j
  rw [wipe_get, wipe_get, wipe_length]
  by_cases hj : j ∈ vs ∧ j < σ.length
  · rw [if_pos hj, if_pos hj]
  · rw [if_neg hj]
theorem LcI.toOwn {K : PySem.W.Frag} {g0 g1 g : Gh} {D : Addr} {vs : List V} {ds : List AU.D} (s : Step g0 g1) (hD : g1.H D = none) (i : LcI K g1 D vs ds g) : Own K g0 g D (.lst ds) := ⟨s.none hD, i.ng, i.nm, vs, i.at_, i.rs⟩
theorem lift_lc {sl : List Nat} {t : DIt} {gt : DG} {tc : DB} {te : DT} {σ : L2.St} {H : Hp} {Q : VK} (h : lift X.K W g0 (dLc t gt tc te sl) σ H Q) :
    tLc (liftI X.K W g0 t) (fun v σ H Q => ∃ gb, liftG X.K gb sl gt v σ H Q) (fun σ H Q => ∃ gb, liftB X.K noW gb tc σ H Q) (fun σ H Q => ∃ gb, lift X.K noW gb te σ H Q) sl σ H Q := by
  obtain ⟨g, ρ, P, Ex, rfl, s0, e, w, q, x⟩ := h
  refine ⟨g, ρ, _, _, rfl, s0, e, w, fun ds hd J g1 s1 y1 => ?_, x⟩
  intro D hD
  have s01 := s0.trans s1
  have e1 : EnvOk X.K (g0.re g1) g1 (wipeD ρ sl) (L2.wipe σ sl) := ((e.step s1).re).wipe sl
  have hq : ∀ vs acc g, LcI X.K g1 D vs acc g → P (.lst acc) → Q (.ref D) g.H := fun vs acc g i hp => by
    obtain ⟨g', eh, s', r', _⟩ := (i.toOwn (Step.refl s1.ok) hD).freeze i.st
    rw [← eh]
    exact q _ hp _ g' (s1.trans s') r'
  exact lc_main (Qd := Q (.ref D)) (s01.to s01 (fun _ _ h => h) fun _ h => h) e1 y1 hD hd hq (wipe_wipe σ sl)
theorem liftF_lc {sl : List Nat} {t : DIt} {gt : DG} {tc : DB} {te : DT} {σ : L2.St} {H : Hp} {Q : VK} (h : liftF X.K W g0 (dLc t gt tc te sl) σ H Q) :
    tLc (liftI X.K W g0 t) (fun v σ H Q => ∃ gb, liftG X.K gb sl gt v σ H Q) (fun σ H Q => ∃ gb, liftB X.K noW gb tc σ H Q) (fun σ H Q => ∃ gb, lift X.K noW gb te σ H Q) sl σ H Q := by
  obtain ⟨g, ρ, P, Ex, rfl, s0, e, w, q, x⟩ := h
  refine ⟨g, ρ, _, _, rfl, s0, e, w, fun ds hd J g1 s1 y1 => ?_, x⟩
  intro D hD
  have s01 := s0.trans s1
  have e1 : EnvOk X.K (g0.re g1) g1 (wipeD ρ sl) (L2.wipe σ sl) := ((e.step s1).re).wipe sl
  have hq : ∀ vs acc g, LcI X.K g1 D vs acc g → P (.lst acc) → Q (.ref D) g.H := fun vs acc g i hp => q _ hp D g (s1.trans i.st) (s1.none hD) (i.toOwn s01 hD)
  exact lc_main (Qd := Q (.ref D)) (s01.to s01 (fun _ _ h => h) fun _ h => h) e1 y1 hD hd hq (wipe_wipe σ sl)
/-- what a comprehension's block keeps -/
structure LcB (X : Cx) (k : Nat) (scope : Scope) (own : List (Str × Nat)) (tg : Expr) (ifs : List Expr) (elt : Expr) (gt : DG) (tc : DB) (te : DT) : Prop where
  bk : ∀ (s : Shared) (H : Hp) (Ca : Addr) (cl : List (Str × Addr)) (fp : List Addr), Cn (AU.blk X s H scope Ca cl fp) noW k → ∀ gb, DPG (AU.blk X s H scope Ca cl fp) gb (own.map (·.2)) tg gt ∧ DTs (AU.blk X s H scope Ca cl fp) noW gb ifs tc ∧ DE (AU.blk X s H scope Ca cl fp) noW gb elt te
section
variable {elt tg iter : Expr} {ifs : List Expr} {scope : Scope} {own : List (Str × Nat)} {pos spos py : Pos} {t : DIt} {gt : DG} {tc : DB} {te : DT} {k : Nat}
theorem de_lc (C : Cn X W k) (hi : DI X W g0 tg iter t) (ok : BlkOk X.N X.env.scope scope own) (b : LcB X k scope own tg ifs elt gt tc te) (hs : ∀ x, foldedSetIterable iter X.env x = pure x := by intro _; rfl) :
    DE X W g0 (.ListComp elt [⟨tg, iter, ifs, 0⟩] scope pos) (dLc t gt tc te (own.map (·.2))) :=
  PE.imp (pe_lc (g := fun v σ H Q => ∃ gb, liftG X.K gb (own.map (·.2)) gt v σ H Q) (tt := fun σ H Q => ∃ gb, liftB X.K noW gb tc σ H Q) (te := fun σ H Q => ∃ gb, lift X.K noW gb te σ H Q) C.cm C.nd hi ok
    (fun s H Ca cl fp => ⟨fun pins s' σ H v u Q I r ⟨gb, w⟩ => ((b.bk s _ Ca cl fp (C.blk s _ scope Ca cl fp) gb).1).run pins s' σ H v u Q I r w⟩)
    (fun s H Ca cl fp => ⟨fun pins s' σ H Q I ⟨gb, w⟩ => ((b.bk s _ Ca cl fp (C.blk s _ scope Ca cl fp) gb).2.1).run pins s' σ H Q I w⟩)
    (fun s H Ca cl fp => ⟨fun pins s' σ H Q I ⟨gb, w⟩ => ((b.bk s _ Ca cl fp (C.blk s _ scope Ca cl fp) gb).2.2).run pins s' σ H Q I w⟩) hs) fun σ H Q h => lift_lc h
theorem df_lc (C : Cn X W k) (hi : DI X W g0 tg iter t) (ok : BlkOk X.N X.env.scope scope own) (b : LcB X k scope own tg ifs elt gt tc te) (hs : ∀ x, foldedSetIterable iter X.env x = pure x := by intro _; rfl) :
    DF X W g0 (.ListComp elt [⟨tg, iter, ifs, 0⟩] scope pos) (dLc t gt tc te (own.map (·.2))) :=
  PE.imp (pe_lc (g := fun v σ H Q => ∃ gb, liftG X.K gb (own.map (·.2)) gt v σ H Q) (tt := fun σ H Q => ∃ gb, liftB X.K noW gb tc σ H Q) (te := fun σ H Q => ∃ gb, lift X.K noW gb te σ H Q) C.cm C.nd hi ok
    (fun s H Ca cl fp => ⟨fun pins s' σ H v u Q I r ⟨gb, w⟩ => ((b.bk s _ Ca cl fp (C.blk s _ scope Ca cl fp) gb).1).run pins s' σ H v u Q I r w⟩)
    (fun s H Ca cl fp => ⟨fun pins s' σ H Q I ⟨gb, w⟩ => ((b.bk s _ Ca cl fp (C.blk s _ scope Ca cl fp) gb).2.1).run pins s' σ H Q I w⟩)
    (fun s H Ca cl fp => ⟨fun pins s' σ H Q I ⟨gb, w⟩ => ((b.bk s _ Ca cl fp (C.blk s _ scope Ca cl fp) gb).2.2).run pins s' σ H Q I w⟩) hs) fun σ H Q h => liftF_lc h
/-- x = [..] on one line -/
theorem dp_setLc (i : Nat) {x : Str} (C : Cn X W k) (hi : DI X W g0 tg iter t) (ok : BlkOk X.N X.env.scope scope own) (b : LcB X k scope own tg ifs elt gt tc te) (hN : X.N[i]? = some x := by rfl) (hyl : X.env.scope.names.lookup x = some .local := by rfl)
    (hsw : swapsWith (.ListComp elt [⟨tg, iter, ifs, 0⟩] scope pos) (some (.Name x py)) spos.line X.env = pure true := by exact sw_true rfl rfl rfl (by decide +kernel)) (hs : ∀ x, foldedSetIterable iter X.env x = pure x := by intro _; rfl) :
    DP X W g0 (.Assign [.Name x py] (.ListComp elt [⟨tg, iter, ifs, 0⟩] scope pos) spos) (dSet i (dLc t gt tc te (own.map (·.2)))) :=
  PS.imp (ps_setLc (g := fun v σ H Q => ∃ gb, liftG X.K gb (own.map (·.2)) gt v σ H Q) (tt := fun σ H Q => ∃ gb, liftB X.K noW gb tc σ H Q) (te := fun σ H Q => ∃ gb, lift X.K noW gb te σ H Q) C.cm C.nd hN hyl hsw hi ok
    (fun s H Ca cl fp => ⟨fun pins s' σ H v u Q I r ⟨gb, w⟩ => ((b.bk s _ Ca cl fp (C.blk s _ scope Ca cl fp) gb).1).run pins s' σ H v u Q I r w⟩)
    (fun s H Ca cl fp => ⟨fun pins s' σ H Q I ⟨gb, w⟩ => ((b.bk s _ Ca cl fp (C.blk s _ scope Ca cl fp) gb).2.1).run pins s' σ H Q I w⟩)
    (fun s H Ca cl fp => ⟨fun pins s' σ H Q I ⟨gb, w⟩ => ((b.bk s _ Ca cl fp (C.blk s _ scope Ca cl fp) gb).2.2).run pins s' σ H Q I w⟩) hs) fun E σ H h => by
    obtain ⟨g, ρ, k, rfl, s0, e, t, l⟩ := h
    exact lift_lc ⟨g, ρ, _, _, rfl, s0, e, t, fun d hd v g' s r => l.nx _ _ g' (s0.trans s) ((e.step s).set r i) hd, l.xok s0 e⟩
theorem dp_ownLc (i : Nat) {x : Str} (C : Cn X W k) (hi : DI X W g0 tg iter t) (ok : BlkOk X.N X.env.scope scope own) (b : LcB X k scope own tg ifs elt gt tc te) (hN : X.N[i]? = some x := by rfl) (hyl : X.env.scope.names.lookup x = some .local := by rfl)
    (hsw : swapsWith (.ListComp elt [⟨tg, iter, ifs, 0⟩] scope pos) (some (.Name x py)) spos.line X.env = pure true := by exact sw_true rfl rfl rfl (by decide +kernel)) (hs : ∀ x, foldedSetIterable iter X.env x = pure x := by intro _; rfl) :
    DP X W g0 (.Assign [.Name x py] (.ListComp elt [⟨tg, iter, ifs, 0⟩] scope pos) spos) (dOwn i (dLc t gt tc te (own.map (·.2)))) :=
  PS.imp (ps_setLc (g := fun v σ H Q => ∃ gb, liftG X.K gb (own.map (·.2)) gt v σ H Q) (tt := fun σ H Q => ∃ gb, liftB X.K noW gb tc σ H Q) (te := fun σ H Q => ∃ gb, lift X.K noW gb te σ H Q) C.cm C.nd hN hyl hsw hi ok
    (fun s H Ca cl fp => ⟨fun pins s' σ H v u Q I r ⟨gb, w⟩ => ((b.bk s _ Ca cl fp (C.blk s _ scope Ca cl fp) gb).1).run pins s' σ H v u Q I r w⟩)
    (fun s H Ca cl fp => ⟨fun pins s' σ H Q I ⟨gb, w⟩ => ((b.bk s _ Ca cl fp (C.blk s _ scope Ca cl fp) gb).2.1).run pins s' σ H Q I w⟩)
    (fun s H Ca cl fp => ⟨fun pins s' σ H Q I ⟨gb, w⟩ => ((b.bk s _ Ca cl fp (C.blk s _ scope Ca cl fp) gb).2.2).run pins s' σ H Q I w⟩) hs) fun E σ H h => by
    obtain ⟨g, ρ, k, rfl, s0, e, t, l⟩ := h
    refine liftF_lc ⟨g, ρ, _, _, rfl, s0, e, t, fun d hd p g' s hp o => l.nx _ _ g' (s0.trans s) ((e.step s).setOwn o i fun j x hj h1 h2 => ?_) hd, l.xok s0 e⟩
    exact (e.free hp) j x h1 h2
end

/-! ### what changes one's own -/
theorem EnvOk.write {ρ : Rho} {i : Nat} {d d' : D} {p : Addr} {o : HO} (s0 : Step g0 g) (e : EnvOk X.K g0 g ρ σ) (hi : ρ[i]? = some (.ow d)) (hp : σ[i]? = some (some (.ref p))) (ho : OwnH X.K (g.own p o) p d') : Step g0 (g.own p o) ∧ EnvOk X.K g0 (g.own p o) (ρ.set i (.ow d')) σ := by
  obtain ⟨p', hp', ow⟩ := e.ow i d hi
  have ep : p' = p := by rw [hp] at hp'; injection (Option.some.inj hp') with z; cases z; rfl
  subst ep
  have ne : ∀ a o, g.G a = some o → a ≠ p' := fun a o h => ne_of_none h ow.ng
  have nM : ∀ a ∈ g.M, a ≠ p' := fun a h z => ow.nm (z ▸ h)
  have hl : i < ρ.length := (List.getElem?_eq_some_iff.mp hi).1
  have up : ∀ a, a ≠ p' → upd g.H p' o a = g.H a := fun a h => upd_ne h
  refine ⟨⟨s0.gs, s0.gn, s0.ms, s0.mn, fun a u h hm => ?_, ⟨fun a u h => ?_, s0.ok.dis, fun a hm => ?_⟩⟩, ⟨by rw [List.length_set]; exact e.len, fun j x h => ?_, fun j x h => ?_, fun j m x y q hjm h1 h2 h3 h4 => ?_⟩⟩
  · show upd g.H p' o a = some u
    rw [up a (ne_of_none h ow.n0)]
    exact s0.hs a u h hm
  · show upd g.H p' o a = some u ∨ _
    rw [up a (ne a u h)]
    rcases s0.ok.le a u h with q | ⟨q, ob, q2⟩
    · exact .inl q
    · refine .inr ⟨q, ob, ?_⟩
      show upd g.H p' o a = _
      rw [up a (ne a u h)]; exact q2
  · obtain ⟨l, ns, j, c, st, h1, h2⟩ := s0.ok.mok a hm
    refine ⟨l, ns, j, c, st, ?_, h2⟩
    show upd g.H p' o a = _
    rw [up a (nM a hm)]; exact h1
  · by_cases hj : i = j
    · subst hj; rw [List.getElem?_set_self hl] at h; cases h
    · rw [List.getElem?_set_ne hj] at h
      obtain ⟨v, a, b⟩ := e.fz j x h
      exact ⟨v, a, Rep.up (g := g) (g' := g.own p' o) (fun _ _ h => h) (fun _ h => h) b⟩
  · by_cases hj : i = j
    · subst hj
      rw [List.getElem?_set_self hl] at h; cases h
      exact ⟨p', hp', ow.n0, ow.ng, ow.nm, ho⟩
    · rw [List.getElem?_set_ne hj] at h
      obtain ⟨q, a, w⟩ := e.ow j x h
      have nq : q ≠ p' := fun z => e.ap i j d x p' hj hi h hp' (z ▸ a)
      refine ⟨q, a, w.n0, w.ng, w.nm, ?_⟩
      have at_ := w.at_
      have hq : ∀ u, g.H q = some u → upd g.H p' o q = some u := fun u hu => by rw [upd_ne nq]; exact hu
      cases x with
      | lst ds => obtain ⟨vs, z, r⟩ := at_; exact ⟨vs, hq _ z, Reps.up (g := g) (g' := g.own p' o) (fun _ _ h => h) (fun _ h => h) r⟩
      | dS ds => obtain ⟨vs, z, r⟩ := at_; exact ⟨vs, hq _ z, RepK.up (g := g) (g' := g.own p' o) (fun _ _ h => h) (fun _ h => h) r⟩
      | dT ds => obtain ⟨vs, z, r⟩ := at_; exact ⟨vs, hq _ z, RepT.up (g := g) (g' := g.own p' o) (fun _ _ h => h) (fun _ h => h) r⟩
      | _ => exact at_.elim
  · have up2 : ∀ (j : Nat) (x : D), (ρ.set i (.ow d'))[j]? = some (.ow x) → ∃ y, ρ[j]? = some (.ow y) := fun j x h => by
      by_cases hj : i = j
      · subst hj; exact ⟨d, hi⟩
      · rw [List.getElem?_set_ne hj] at h; exact ⟨x, h⟩
    obtain ⟨x', h1'⟩ := up2 j x h1
    obtain ⟨y', h2'⟩ := up2 m y h2
    exact e.ap j m x' y' q hjm h1' h2' h3 h4
/-- x.append(e), x one's own -/
@[simp] def dAppend (i : Nat) (t : DT) : DS := fun ρ k => t ρ (fun d => match ρ[i]? with
  | some (.ow (.lst ds)) => ds.length < 16777216 ∧ k.nx (ρ.set i (.ow (.lst (ds ++ [d]))))
  | _ => False) (k.ex ρ)
theorem EnvOk.val {K : PySem.W.Frag} {ρ : Rho} (e : EnvOk K g0 g ρ σ) {i : Nat} {ds : List D} (h : ρ[i]? = some (.ow (.lst ds))) : ∃ p vs, σ[i]? = some (some (.ref p)) ∧ g.H p = some (.lst vs) ∧ Reps K g vs ds := by
  obtain ⟨p, a, o⟩ := e.ow i _ h
  obtain ⟨vs, z, r⟩ := o.at_
  exact ⟨p, vs, a, z, r⟩
/-- x is one's own list -/
@[simp] def dIsOwn (i : Nat) (t : DS) : DS := fun ρ k => (match ρ[i]? with
  | some (.ow (.lst _)) => True
  | _ => False) ∧ t ρ k
theorem dp_append (i : Nat) {x : Str} {e : Expr} {te : DT} {p1 p2 p3 p4 : Pos} (he : DE X W g0 e te) (hN : X.N[i]? = some x := by rfl) (hv : Vis X.env.scope x := by first | exact Or.inl rfl | exact Or.inr (Or.inl rfl) | exact Or.inr (Or.inr rfl)) (hd : (x == ("__debug__" : Str)) = false := by decide)
    (hcd : (x == ("__classdict__" : Str)) = false := by decide) (hline : (p2.endLine == p3.line) = true := by rfl) (hsw : swapsWith (.Call (.Attribute (.Name x p1) "append" p2) [e] [] p3) none p4.line X.env = pure false := by rfl)
    (hbase : attributeBase (.Name x p1) "append" X.env (eval (.Name x p1) X.env) = eval (.Name x p1) X.env := by rfl)
    (hfew : ((backTo p3 (starEach [e] X.env)).all (fun x => !x.1) && (backToKw p3 (keywordEach [] X.env)).all (fun x => x.1.isSome) && decide ([e].length + ([] : List Keyword).length + (if ([] : List Keyword).isEmpty then 0 else 1) < 30)) = true := by rfl)
    (hs : starEach [e] X.env = (false, eval e X.env) :: starEach [] X.env := by rfl) (hpl : (backTo p3 (starEach [] X.env)).any (·.1) = false := by rfl) :
    DP X W g0 (.Expr (.Call (.Attribute (.Name x p1) "append" p2) [e] [] p3) p4) (dIsOwn i (dAppend i te)) :=
  PS.imp (ps_expr (pe_bm PySem.F.plainAttrs_list PySem.F.slot_list_append PySem.F.type_list_append mt_append (pe_var hN hv hd hcd) (pa_cons he pa_nil hs) hbase hfew hline hs hpl) hsw) fun E σ H h => by
    obtain ⟨g, ρ, k, rfl, s0, en, ⟨ow, t⟩, l⟩ := h
    split at ow
    · rename_i ds0 h0
      obtain ⟨p, vs, hp, hH, r⟩ := en.val h0
      refine ⟨.ref p, hp, .inl ⟨rfl, vs, SqL.of hH⟩, ?_⟩
      refine ⟨g, ρ, _, _, rfl, s0, en, t, fun d hd v g1 s1 r1 => ?_, l.xok s0 en⟩
      simp only [h0] at hd
      obtain ⟨p', vs', hp', hH', r'⟩ := (en.step s1).val h0
      rw [hp] at hp'
      cases hp'
      refine ⟨p, vs', v, rfl, rfl, hH', by rw [r'.length, sizeLine_eq]; exact hd.1, ?_⟩
      obtain ⟨s2, e2⟩ := (en.step s1).write (o := .lst (vs' ++ [v])) (d' := .lst (ds0 ++ [d])) (s0.trans s1) h0 hp ⟨_, upd_same, Reps.up (g := g1) (g' := g1.own p _) (fun _ _ h => h) (fun _ h => h) (Reps.append r' (.cons r1 .nil))⟩
      exact l.nx _ _ _ s2 e2 hd.2
    · exact ow.elim
end
end AU

/-! AuHand: constants of the module, name op= e, a, b = x, y; the law's draws. -/
namespace AU
open PySem L2 PySem.Spec PyProof.Rows

/-- the module's x stands for d -/
def Cs (K : PySem.W.Frag) (mg : Str → Option Value) (x : Str) (d : D) : Prop := ∃ (v : V) (u : Value), mg x = some u ∧ RelV v u ∧ ∀ g : Gh, Rep K g v d
section
variable {X : Cx} {W : WX} {g0 g : Gh} {σ : L2.St} {pos : Pos}
theorem de_cs {x : Str} {d : D} (h : Cs X.K X.mg x d) (hg : Gl X x := by rfl) (hd : (x == ("__debug__" : Str)) = false := by decide) : DE X W g0 (.Name x pos) (dC d) := by
  obtain ⟨v, u, hm, r, rd⟩ := h
  exact de_glob hm r rd hg hd
/-- name op= e on whole numbers -/
@[simp] def dAug (i : Nat) (te : DT) (f : Int → Int → Int) : DS := fun ρ k => match ρ[i]? with
  | some (.fz (.int a)) => te ρ (onI fun b => k.nx (ρ.set i (.fz (.int (f a b))))) (k.ex ρ)
  | _ => False
theorem dp_aug (i : Nat) {x : Str} {e : Expr} {te : DT} {op : Operator} {f : Int → Int → Int} {pos' : Pos} (hN : X.N.Nodup) (ho : PIp X op (ipI f)) (he : DE X W g0 e te) (hi : X.N[i]? = some x := by rfl) (hx : Loc X.env.scope x := by first | exact Or.inl rfl | exact Or.inr rfl)
    (hf : X.fn x = true ∨ X.env.scope.names.lookup x = some .local := by first | exact .inl rfl | exact .inr rfl | assumption) : DP X W g0 (.AugAssign (.Name x pos') op e pos) (dAug i te f) := PS.imp (ps_aug hN hi hx he ho hf) fun E σ H h => by
  obtain ⟨g, ρ, k, rfl, s0, e, t, l⟩ := h
  unfold dAug at t
  split at t
  · rename_i a ha
    obtain ⟨v, hv, rv⟩ := e.fz i _ ha
    cases rv
    refine ⟨_, hv, g, ρ, _, _, rfl, s0, e, t, fun d hd v g' s r => ?_, l.xok s0 e⟩
    obtain ⟨b, rfl, hb⟩ := hd.out
    cases r
    exact ⟨a, b, rfl, rfl, l.nx _ _ g' (s0.trans s) ((e.step s).set (.int _) i) hb⟩
  · exact t.elim
/-- a, b = x, y -/
@[simp] def dPar (i j : Nat) (ta : DA) : DS := fun ρ k => ta ρ (fun ds => match ds with
  | [a, b] => k.nx ((ρ.set i (.fz a)).set j (.fz b))
  | _ => False) (k.ex ρ)
theorem dp_par (i j : Nat) {x y : Str} {a b : Expr} {ta : DA} {px py pt : Pos} {kt k2 pt2} {k : Nat} (C : Cn X W k) (hij : i ≠ j) (ha : DPA X W g0 [a, b] ta)
    (hw : swappedStores [.Tuple [.Name x px, .Name y py] kt pt] (.Tuple [a, b] k2 pt2) X.env = pure (some [x, y])) (hi : X.N[i]? = some x := by rfl) (hj : X.N[j]? = some y := by rfl)
    (hx : X.env.scope.names.lookup x = some .local := by rfl) (hy : X.env.scope.names.lookup y = some .local := by rfl)
    (hs : swapsWithSole [.Tuple [.Name x px, .Name y py] kt pt] (.Tuple [a, b] k2 pt2) pos.line X.env = pure false := by rfl) :
    DP X W g0 (.Assign [.Tuple [.Name x px, .Name y py] kt pt] (.Tuple [a, b] k2 pt2) pos) (dPar i j ta) := PS.imp (ps_par C.cm C.nd hi hj hij hx hy ha hw hs) fun E σ H h => by
  obtain ⟨g, ρ, k, rfl, s0, e, t, l⟩ := h
  refine ⟨g, ρ, _, _, rfl, s0, e, t, fun ds hd vs g' s r => ?_, l.xok s0 e⟩
  split at hd
  · cases r with
    | cons r1 r2 => cases r2 with
      | cons r2 r3 => cases r3; exact ⟨_, _, rfl, l.nx _ _ g' (s0.trans s) (((e.step s).set r1 i).set r2 j) hd⟩
  · exact hd.elim

/-! ### the law's draws -/
/-- [list(script), 0, 0, 7] -/
def dBegin : DS := fun ρ k => ∃ ns, ρ = [.fz (.scr ns)] ∧ k.rt .drw
def tBegin : TS := L2.tRet (tLst (tCons (tCB (fun xs H Q => ∃ p ys, xs = [.ref p] ∧ (SqL X.K H p ys ∨ SqT X.K H p ys) ∧ ∀ l, H l = none → Q (.ref l) (upd H l (.lst ys))) (tCons (tVar 0) tNil)) (tCons (tC (.int 0)) (tCons (tC (.int 0)) (tCons (tC (.int 7)) tNil)))))
theorem drw_new {K : PySem.W.Frag} {g : Gh} (h : Hold g) {p l : Addr} {ns : List Int} {i c st : Int} (hp : g.H p = none) (hl : g.G l = some (.lst (ns.map V.int))) (hn : ns.length ≤ 63) (hi : 0 ≤ i) (hc : 0 ≤ c) :
    Step g ⟨g.G, p :: g.M, upd g.H p (.lst [.ref l, .int i, .int c, .int st])⟩ := by
  have s := h.own (.lst [.ref l, .int i, .int c, .int st]) hp
  refine ⟨fun _ _ e => e, fun _ _ e => .inl e, fun a ha => List.mem_cons_of_mem _ ha, fun a ha => ?_, s.hs, ⟨s.ok.le, fun a ha => ?_, fun a ha => ?_⟩⟩
  · rcases List.mem_cons.mp ha with q | q
    · exact .inr (q ▸ hp)
    · exact .inl q
  · rcases List.mem_cons.mp ha with q | q
    · rw [q]; exact h.free hp
    · exact h.dis a q
  · rcases List.mem_cons.mp ha with q | q
    · subst q; exact ⟨l, ns, i, c, st, upd_same, hl, hn, hi, hc⟩
    · exact s.ok.mok a q
theorem begin_sound {E : Ends} {H : Hp} (h : liftS X.K W g0 dBegin E σ H) : tBegin (X := X) E σ H := by
  obtain ⟨g, ρ, k, rfl, s0, e, ⟨ns, rfl, w⟩, lk⟩ := h
  obtain ⟨v, hv, r⟩ := e.fz 0 _ rfl
  cases r with
  | scr hq hn =>
    rename_i a
    refine ⟨_, hv, ?_⟩
    refine ⟨a, _, rfl, .inl (s0.ok.sqL hq), fun l hl => ?_⟩
    refine ⟨by show 4 ≤ sizeLine; rw [sizeLine_eq]; decide, fun p hp => ?_⟩
    have s1 := s0.ok.new (.lst (ns.map V.int)) hl
    have s2 := drw_new (K := X.K) s1.ok (ns := ns) (l := l) (i := 0) (c := 0) (st := 7) hp upd_same hn (Int.le_refl 0) (Int.le_refl 0)
    exact lk.rt .drw _ _ (s0.trans (s1.trans s2)) (.drw List.mem_cons_self) w
theorem drw_put {p l : Addr} {ns : List Int} {i c st : Int} (s0 : Step g0 g) (hp : p ∈ g.M) (hl : g.G l = some (.lst (ns.map V.int))) (hn : ns.length ≤ 63) (hi : 0 ≤ i) (hc : 0 ≤ c) : Step g0 (g.own p (.lst [.ref l, .int i, .int c, .int st])) := by
  have ne : ∀ a o, g.G a = some o → a ≠ p := fun a o h z => by
    rw [z, s0.ok.dis p hp] at h; cases h
  refine ⟨s0.gs, s0.gn, s0.ms, s0.mn, fun a u h hm => ?_, ⟨fun a u h => ?_, s0.ok.dis, fun a hm => ?_⟩⟩
  · have np : a ≠ p := fun z => by
      rcases s0.mn p hp with q | q
      · exact hm (z ▸ q)
      · rw [z, q] at h; cases h
    show upd g.H p _ a = some u
    rw [upd_ne np]
    exact s0.hs a u h hm
  · show upd g.H p _ a = some u ∨ _
    rw [upd_ne (ne a u h)]
    rcases s0.ok.le a u h with q | ⟨q, ob, q2⟩
    · exact .inl q
    · refine .inr ⟨q, ob, ?_⟩
      show upd g.H p _ a = _
      rw [upd_ne (ne a u h)]; exact q2
  · by_cases ha : a = p
    · subst ha; exact ⟨l, ns, i, c, st, upd_same, hl, hn, hi, hc⟩
    · obtain ⟨l, ns, j, c, st, h1, h2⟩ := s0.ok.mok a hm
      refine ⟨l, ns, j, c, st, ?_, h2⟩
      show upd g.H p _ a = _
      rw [upd_ne ha]; exact h1
def dDraw : DS := fun ρ k => ∃ n : Int, ρ = [.fz .drw, .fz (.int n), .un, .un] ∧ 0 < n ∧ n < 1073741824 ∧ ∀ r, 0 ≤ r → r < n → k.rt (.int r)
section
variable (X)
abbrev tAt (k : Int) : TE := tOp (rIx X.K) (tVar 0) (tC (.int k))
abbrev tInt (t : TE) : TE := tCB (fun xs H Q => (∃ i, xs = [.int i] ∧ Q (.int i) H) ∨ ∃ k, xs = [.bl k] ∧ Q (.int (if k then 1 else 0)) H) (tCons t tNil)
abbrev rPls : R2 := rI0 fun i j => .int (i + j)
abbrev rTms : R2 := rI IntMulOk fun i j => .int (i * j)
abbrev rRst : R2 := rI (fun _ j => 0 < j) fun i j => .int (i % j)
abbrev tPut (k : Int) (t : TE) : TS := L2.tAsg t (gSub (tVar 0) (tC (.int k)) rSetL)
def tDraw : TS := L2.tSeq (L2.tIfS (tTest (tOp rEq (tAt X 2) (tC (.int 0))))
    (L2.tIfS (tTest (tOp (rI0 fun i j => .bl (decide (i < j))) (tAt X 1) (tCB (fun xs H Q => ∃ p ys, xs = [.ref p] ∧ (SqL X.K H p ys ∨ SqT X.K H p ys) ∧ Q (.int ys.length) H) (tCons (tAt X 0) tNil))))
      (L2.tSeq (L2.tAsg (tOp (rIx X.K) (tAt X 0) (tAt X 1)) (gName 2)) (L2.tSeq (tPut 1 (tOp rPls (tAt X 1) (tC (.int 1))))
        (L2.tIfS (tTest (tOp (rI0 fun i j => .bl (decide (j ≤ i))) (tVar 2) (tOp (rI CPow fun i j => .int (i ^ j.toNat)) (tC (.int 10)) (tC (.int 18))))) (tPut 2 (tVar 2))
          (tPut 3 (tOp rRst (tInt (tOp rPls (tOp rPls (tOp rTms (tAt X 3) (tC (.int 48271))) (tOp rTms (tVar 2) (tC (.int 69621)))) (tC (.int 11)))) (tC (.int 2147483647)))))))
      (tPut 3 (tOp rRst (tInt (tOp rPls (tOp rTms (tAt X 3) (tC (.int 48271))) (tC (.int 7)))) (tC (.int 2147483647))))) tNext)
  (L2.tSeq (L2.tIfS (tTest (tOp (rI0 fun i j => .bl (decide (j < i))) (tAt X 2) (tC (.int 0))))
      (L2.tSeq (L2.tAsg (tOp rRst (tInt (tAt X 2)) (tVar 1)) (gName 3)) (L2.tSeq (tPut 2 (tOp (rI CDiv fun i j => .int (i / j)) (tAt X 2) (tVar 1))) (L2.tRet (tVar 3)))) tNext)
    (L2.tRet (tOp rRst (tOp rRst (tInt (tOp rTms (tAt X 3) (tC (.int 16807)))) (tC (.int 2147483629))) (tVar 1))))
end
/-- where the draws stand: the list at p -/
structure DrwS (X : Cx) (g0 : Gh) (n : Int) (p : Addr) (σ : L2.St) (g : Gh) : Prop where
  st : Step g0 g
  v0 : σ[0]? = some (some (.ref p))
  v1 : σ[1]? = some (some (.int n))
  ln : σ.length = 4
  pm : p ∈ g.M
theorem at_read {p : Addr} {xs : List V} {k : Int} {v : V} {H : Hp} {Q : VK} (h0 : σ[0]? = some (some (.ref p))) (hp : H p = some (.lst xs)) (ha : atI xs k = some v) (q : Q v H) : tAt X k σ H Q :=
  ⟨_, h0, .inl ⟨p, xs, k, v, rfl, rfl, SqL.of hp, ha, q⟩⟩
theorem ite_t {p : Prop} [Decidable p] (h : p) {A B : Prop} (a : A) : if decide p = true then A else B := by rw [if_pos (decide_eq_true h)]; exact a
theorem ite_f {p : Prop} [Decidable p] (h : ¬ p) {A B : Prop} (a : B) : if decide p = true then A else B := by rw [if_neg (by rw [decide_eq_false h]; exact Bool.false_ne_true)]; exact a
theorem draw_tail {n : Int} {p : Addr} {E : Ends} {g : Gh} (d : DrwS X g0 n p σ g) (h1 : 0 < n) (h2 : n < 1073741824) (hk : ∀ (r : Int) (g' : Gh), 0 ≤ r → r < n → Step g0 g' → E.rt (.int r) g'.H) :
    (L2.tSeq (L2.tIfS (tTest (tOp (rI0 fun i j => .bl (decide (j < i))) (tAt X 2) (tC (.int 0))))
      (L2.tSeq (L2.tAsg (tOp rRst (tInt (tAt X 2)) (tVar 1)) (gName 3)) (L2.tSeq (tPut 2 (tOp (rI CDiv fun i j => .int (i / j)) (tAt X 2) (tVar 1))) (L2.tRet (tVar 3)))) tNext)
    (L2.tRet (tOp rRst (tOp rRst (tInt (tOp rTms (tAt X 3) (tC (.int 16807)))) (tC (.int 2147483629))) (tVar 1)))) E σ g.H := by
  obtain ⟨l, ns, i, c, st, hH, hG, hn, hi, hc⟩ := d.st.ok.mok p d.pm
  refine at_read d.v0 hH rfl ⟨_, _, rfl, rfl, _, rfl, ?_⟩
  by_cases hc0 : 0 < c
  · refine ite_t hc0 ?_
    have v0 : (σ.set 3 (some (.int (c % n))))[0]? = some (some (.ref p)) := by rw [List.getElem?_set_ne (by decide)]; exact d.v0
    have v1 : (σ.set 3 (some (.int (c % n))))[1]? = some (some (.int n)) := by rw [List.getElem?_set_ne (by decide)]; exact d.v1
    have v3 : (σ.set 3 (some (.int (c % n))))[3]? = some (some (.int (c % n))) := by rw [List.getElem?_set_self (by rw [d.ln]; decide)]
    refine at_read d.v0 hH rfl (.inl ⟨c, rfl, _, d.v1, c, n, rfl, rfl, h1, ?_⟩)
    refine at_read v0 hH rfl ⟨_, v1, _, _, rfl, rfl, ⟨h1, h2⟩, _, v0, p, _, 2, 2, rfl, rfl, hH, rfl, _, v3, ?_⟩
    exact hk _ (g.own p (.lst [.ref l, .int i, .int (c / n), .int st])) (Int.emod_nonneg _ (by omega)) (Int.emod_lt_of_pos _ h1) (drw_put d.st d.pm hG hn hi (Int.ediv_nonneg hc (by omega)))
  · refine ite_f hc0 ?_
    refine at_read d.v0 hH rfl ⟨_, _, rfl, rfl, IntMulOk.of_right (by decide +kernel), .inl ⟨_, rfl, _, _, rfl, rfl, (show (0 : Int) < 2147483629 by decide), _, d.v1, _, _, rfl, rfl, h1, ?_⟩⟩
    exact hk _ g (Int.emod_nonneg _ (by omega)) (Int.emod_lt_of_pos _ h1) d.st
theorem draw_sound {E : Ends} {H : Hp} (h : liftS X.K W g0 dDraw E σ H) : tDraw X E σ H := by
  obtain ⟨g, ρ, k, rfl, s0, e, ⟨n, rfl, h1, h2, w⟩, lk⟩ := h
  obtain ⟨v, v0, r0⟩ := e.fz 0 _ rfl
  obtain ⟨v', v1, r1⟩ := e.fz 1 _ rfl
  cases r0 with
  | drw pm =>
    rename_i p
    cases r1
    have ln : σ.length = 4 := e.len.symm
    have hk : ∀ (r : Int) (g' : Gh), 0 ≤ r → r < n → Step g0 g' → E.rt (.int r) g'.H := fun r g' a b s => lk.rt (.int r) _ g' s (.int r) (w r a b)
    obtain ⟨l, ns, i, c, st, hH, hG, hn, hi, hc⟩ := s0.ok.mok p pm
    have hl : g.H l = some (.lst (ns.map V.int)) := s0.ok.lst hG
    unfold tDraw
    refine at_read v0 hH rfl ⟨rfl, _, rfl, ?_⟩
    by_cases hc0 : V.int c = V.int 0
    · refine ite_t hc0 ?_
      refine at_read v0 hH rfl (at_read v0 hH rfl ⟨l, _, rfl, .inl (SqL.of hl), _, _, rfl, rfl, _, rfl, ?_⟩)
      by_cases hi2 : i < ((ns.map V.int).length : Int)
      · refine ite_t hi2 ?_
        have hx : ixN (ns.map V.int).length i = some i.toNat := by unfold ixN; rw [if_pos hi, if_pos hi2]
        have hlt : i.toNat < ns.length := by rw [List.length_map] at hi2; omega
        have ha : atI (ns.map V.int) i = some (.int ns[i.toNat]) := by unfold atI; rw [hx]; show (ns.map V.int)[i.toNat]? = _; rw [List.getElem?_map, List.getElem?_eq_getElem hlt]; rfl
        generalize ns[i.toNat] = z at ha
        refine at_read v0 hH rfl (at_read v0 hH rfl (.inl ⟨l, _, i, _, rfl, rfl, SqL.of hl, ha, ?_⟩))
        have v0' : (σ.set 2 (some (.int z)))[0]? = some (some (.ref p)) := by rw [List.getElem?_set_ne (by decide)]; exact v0
        have v1' : (σ.set 2 (some (.int z)))[1]? = some (some (.int n)) := by rw [List.getElem?_set_ne (by decide)]; exact v1
        have v2' : (σ.set 2 (some (.int z)))[2]? = some (some (.int z)) := by rw [List.getElem?_set_self (by rw [ln]; decide)]
        have ln' : (σ.set 2 (some (V.int z))).length = 4 := by rw [List.length_set]; exact ln
        refine at_read v0' hH rfl ⟨_, _, rfl, rfl, _, v0', p, _, 1, 1, rfl, rfl, hH, rfl, ?_⟩
        have s1 := drw_put (i := i + 1) (c := c) (st := st) s0 pm hG hn (by omega) hc
        have hH1 : (g.own p (.lst [.ref l, .int (i + 1), .int c, .int st])).H p = some (.lst [.ref l, .int (i + 1), .int c, .int st]) := upd_same
        refine ⟨_, v2', _, _, rfl, rfl, ⟨by decide, by decide, by decide⟩, _, _, rfl, rfl, _, rfl, ?_⟩
        by_cases hz : (10 : Int) ^ (18 : Int).toNat ≤ z
        · refine ite_t hz ?_
          refine ⟨_, v2', _, v0', p, _, 2, 2, rfl, rfl, hH1, rfl, ?_⟩
          have hz0 : 0 ≤ z := Int.le_trans (by decide) hz
          exact draw_tail ⟨drw_put (i := i + 1) (c := z) (st := st) s1 pm hG hn (by omega) hz0, v0', v1', ln', pm⟩ h1 h2 hk
        · refine ite_f hz ?_
          refine at_read v0' hH1 rfl ⟨_, _, rfl, rfl, IntMulOk.of_right (by decide +kernel), _, v2', _, _, rfl, rfl, IntMulOk.of_right (by decide +kernel), _, _, rfl, rfl, _, _, rfl, rfl, .inl ⟨_, rfl, _, _, rfl, rfl, (show (0 : Int) < 2147483647 by decide), _, v0', p, _, 3, 3, rfl, rfl, hH1, rfl, ?_⟩⟩
          exact draw_tail ⟨drw_put (i := i + 1) (c := c) (st := _) s1 pm hG hn (by omega) hc, v0', v1', ln', pm⟩ h1 h2 hk
      · refine ite_f hi2 ?_
        refine at_read v0 hH rfl ⟨_, _, rfl, rfl, IntMulOk.of_right (by decide +kernel), _, _, rfl, rfl, .inl ⟨_, rfl, _, _, rfl, rfl, (show (0 : Int) < 2147483647 by decide), _, v0, p, _, 3, 3, rfl, rfl, hH, rfl, ?_⟩⟩
        exact draw_tail ⟨drw_put (i := i) (c := c) (st := _) s0 pm hG hn hi hc, v0, v1, ln, pm⟩ h1 h2 hk
    · refine ite_f hc0 ?_
      exact draw_tail ⟨s0, v0, v1, ln, pm⟩ h1 h2 hk
end
end AU

/-! AuHead: the head's Hook with one more Bool; the module's constants; the exception classes; the law's row. -/
namespace AU
open PySem L2 PySem.Spec PyProof.Rows
abbrev AlE : Type := He.AlD × Bool
def obsEG (n : Nat) (fa : List He.Fa) (fn : List He.DefD) (ex : PySem.W.Frag → Bool) (g : Addr → Option Obj) : AlE := (He.obsD fa fn (He.frG g (He.asD g n)), ex (He.frG g (He.asD g n)))
def SaysE (fa : List He.Fa) (fn : List He.DefD) (ex : PySem.W.Frag → Bool) (K : PySem.W.Frag) : Prop := He.SaysD fa fn K ∧ ex K = true
def hookE (n : Nat) (fa : List He.Fa) (fn : List He.DefD) (ex : PySem.W.Frag → Bool) : PySem.W.Hook where
  α := AlE
  obs := fun s => obsEG n fa fn ex s.heap.get?
  val := fun _ => (He.valD fn, true)
  says := fun _ h => ∃ K : PySem.W.Frag, K.In h ∧ SaysE fa fn ex K
  of := fun _ _ e => ⟨_, He.frG_in, congrArg (fun z : AlE => z.1) e, congrArg (fun z : AlE => z.2) e⟩
  keeps := fun _ _ _ ⟨K, hK, c⟩ k => ⟨K, PySem.W.Frag.In.keeps hK k, c⟩
theorem obsEG_eq {n : Nat} {fa : List He.Fa} {fn : List He.DefD} {ex : PySem.W.Frag → Bool} {g : Addr → Option Obj} {s : Shared} (h : ∀ a, g a = s.heap.get? a) : obsEG n fa fn ex g = (hookE n fa fn ex).obs s := by
  have e : g = s.heap.get? := funext h
  rw [e] <;> rfl
section
variable {K : PySem.W.Frag} {h : Heap} {mg : Str → Option Value}
theorem cs_int (X : K.In h) (G : h.Ns mainGlobals mg) {x : Str} {i : Int} (c : (He.Fa.int x i).ok K = true) : Cs K mg x (.int i) := by
  obtain ⟨t, e⟩ := He.int_ok X G c
  exact ⟨.int i, _, e, ⟨t, rfl⟩, fun g => .int i⟩
theorem cs_str (X : K.In h) (G : h.Ns mainGlobals mg) {x z : Str} (c : (He.Fa.str x z).ok K = true) : Cs K mg x (.str z) := by
  obtain ⟨t, e⟩ := He.str_ok X G c
  exact ⟨.str z, _, e, ⟨t, rfl⟩, fun g => .str z⟩
theorem dvs_str : ∀ (zs : List Str), (zs.map He.Dv.str).map (He.Dv.v K) = zs.map V.str
  | [] => rfl
  | z :: zs => by rw [List.map_cons, List.map_cons, dvs_str zs]; rfl
theorem cs_tup (X : K.In h) (G : h.Ns mainGlobals mg) {x : Str} {zs : List Str} (c : (He.Fa.glo x).ok K = true) (t : He.tupB K x (zs.map He.Dv.str) = true) : Cs K mg x (.tup (zs.map D.str)) := by
  refine ⟨.ref (He.ga K x), _, He.glo_ok X G c, rfl, fun g => ?_⟩
  have h := He.tupB_ok t g.G
  rw [dvs_str] at h
  exact .tup ⟨h, .inr fun v hv => by obtain ⟨z, _, e⟩ := List.mem_map.mp hv; exact ⟨z, e.symm⟩⟩ (reps_strs zs)
theorem xcls (X : K.In h) (G : h.Ns mainGlobals mg) {x : Str} (c : (He.Fa.glo x).ok K = true) (e : (He.Fa.exc x).ok K = true) : XCls K mg x := by
  obtain ⟨h1, h2, h3, h4⟩ := He.exc_ok e
  exact ⟨h1, He.glo_ok X G c, h2, h3, h4⟩
theorem bi_of (X : K.In h) (G : h.Ns mainGlobals mg) (c : (biN.all fun x => (He.Fa.free x).ok K) = true) : Bi mg := fun x hx => He.free_ok X G (List.all_eq_true.mp c x hx)
end
/-- a def of the module as it stands -/
def Df (K : PySem.W.Frag) (mg : Str → Option Value) (st : Stmt) (x : Str) : Prop := ∃ fd, FunD K x x (defArgs st) (defBody st) (defScope st) [] [] (He.ga K x) fd ∧ mg x = some (.ref (He.ga K x))
def S_no : Spec := fun _ _ _ => False
theorem fn_no {P : Program} {w : World} {K : PySem.W.Frag} {mg : Str → Option Value} {base : Heap} {x y qual : Str} {params : Arguments} {body : List Stmt} {scope : Scope} {f : Addr} {fd : FuncData} {N ps : List Str} {k : Nat}
    (F : FunD K x qual params body scope [] [] f fd) (Sc : FnScope N ps scope) (hm : mg y = some (.ref f))
    (hb : ∀ (kV doc pm : Value) (an : Option Addr) (cdv ct : Value) (us : List Value), us.length = ps.length → bindArgs (PySem.W.fnOf x qual params body scope .none kV doc pm an cdv ct) ⟨us, []⟩ = pure (ps.zip us)) : Fn P w K mg base (k + 1) y S_no :=
  fn_mk F (fnD F Sc (t := dNever) (fun cdv A outer s H E g0 C => dps_never) (fun _ _ _ h => h.elim) (fun _ _ _ h => h.elim)) hm hb

/-- a def that raises nothing, in a context of no exceptions -/
theorem fn_cx0 {P : Program} {w : World} {K : PySem.W.Frag} {mg : Str → Option Value} {base : Heap} {k : Nat} {f : Addr} {fd : FuncData} {ps : List Str} {sp : Sp} (F : FnOk P w K mg base (L2.CX P w) k f fd ps sp) :
    FnOk P w K mg base L2.CX0 k f fd ps (fun vs H Q _ => sp vs H Q fun _ _ _ => False) :=
  ⟨fun vs H Q _ h => F.len vs H Q _ h, fun A outer s H args us vs Q E hr he hb hv hs => codeAny_mono (F.run A outer s H args us vs Q _ hr he hb hv hs) fun r s' h => by
    cases r with
    | ok c => cases c <;> exact h
    | error e =>
      obtain ⟨_, _, _, _, _, _, _, _, _, _, _, _, z⟩ := (show L2.CX P w outer H s (fun _ _ _ => False) e s' from h)
      exact z⟩
/-- the law's spec: at every script it hands back True -/
def spLaw : Spec := fun ds P _ => ∃ ns, ds = [.scr ns] ∧ P (.bl true)
theorem law_start {K : PySem.W.Frag} {H : Hp} {a : Addr} {ns : List Int} (hl : ns.length ≤ 63) (hS : SqL K H a (ns.map V.int)) (hO : Only H) : spD K spLaw [.ref a] H (fun v _ => v = .bl true) fun _ _ _ => False := by
  refine ⟨⟨H, [], H⟩, [.scr ns], fun d => d = .bl true, fun _ => False, rfl, ⟨fun a o e => .inl e, fun a h => (by cases h), fun a h => (by cases h)⟩, .cons (.scr hS hl) .nil, ⟨ns, rfl, rfl⟩, fun d hd v g' s r => ?_, fun c h => h.elim⟩
  subst hd
  cases r
  rfl
end AU

/-! AuCalls: calls of built-ins by names. -/
namespace AU
open PySem L2 PySem.Spec PyProof.Rows
theorem bt_len : bootBuiltins ("len" : Str) = some (.builtin "len") := by decide +kernel
theorem bt_all : bootBuiltins ("all" : Str) = some (.builtin "all") := by decide +kernel
theorem bt_sum : bootBuiltins ("sum" : Str) = some (.builtin "sum") := by decide +kernel
theorem bt_max : bootBuiltins ("max" : Str) = some (.builtin "max") := by decide +kernel
theorem bt_abs : bootBuiltins ("abs" : Str) = some (.builtin "abs") := by decide +kernel
theorem bt_int : bootBuiltins ("int" : Str) = some (.type "int") := by decide +kernel
theorem bt_list : bootBuiltins ("list" : Str) = some (.type "list") := by decide +kernel
theorem bt_tuple : bootBuiltins ("tuple" : Str) = some (.type "tuple") := by decide +kernel
section
variable {X : Cx} {W : WX} {g0 : Gh} {k : Nat} {e e2 : Expr} {t t2 : DT} {ts : DA} {p pos : Pos}
theorem dc_len (B : Bi X.mg) (ha : DPA X W g0 [e] ts) (hg : Gl X "len" := by rfl) (he : starEach [e] X.env = (false, eval e X.env) :: starEach [] X.env := by rfl) (hpl : (backTo pos (starEach [] X.env)).any (·.1) = false := by rfl) :
    DE X W g0 (.Call (.Name "len" p) [e] [] pos) (dB (on1 fLen) ts) := de_callB call_len rel_len (B.at_ "len") bt_len ha hg (by decide) (by decide) he hpl
theorem dc_all (C : Cn X W k) (B : Bi X.mg) (ha : DPA X W g0 [e] ts) (hg : Gl X "all" := by rfl) (he : starEach [e] X.env = (false, eval e X.env) :: starEach [] X.env := by rfl) (hpl : (backTo pos (starEach [] X.env)).any (·.1) = false := by rfl) :
    DE X W g0 (.Call (.Name "all" p) [e] [] pos) (dB (on1 fAll) ts) := de_callB (cr_all C.cm) rel_all (B.at_ "all") bt_all ha hg (by decide) (by decide) he hpl
theorem dc_sum (C : Cn X W k) (B : Bi X.mg) (ha : DPA X W g0 [e] ts) (hg : Gl X "sum" := by rfl) (he : starEach [e] X.env = (false, eval e X.env) :: starEach [] X.env := by rfl) (hpl : (backTo pos (starEach [] X.env)).any (·.1) = false := by rfl) :
    DE X W g0 (.Call (.Name "sum" p) [e] [] pos) (dB (on1 fSum) ts) := de_callB (cr_sum C.cm) rel_sum (B.at_ "sum") bt_sum ha hg (by decide) (by decide) he hpl
theorem dc_maxL (C : Cn X W k) (B : Bi X.mg) (ha : DPA X W g0 [e] ts) (hg : Gl X "max" := by rfl) (he : starEach [e] X.env = (false, eval e X.env) :: starEach [] X.env := by rfl) (hpl : (backTo pos (starEach [] X.env)).any (·.1) = false := by rfl) :
    DE X W g0 (.Call (.Name "max" p) [e] [] pos) (dB (on1 fMaxL) ts) := de_callB (cr_max C.cm) rel_maxL (B.at_ "max") bt_max ha hg (by decide) (by decide) he hpl
theorem dc_max2 (C : Cn X W k) (B : Bi X.mg) (ha : DPA X W g0 [e, e2] ts) (hg : Gl X "max" := by rfl) (he : starEach [e, e2] X.env = (false, eval e X.env) :: starEach [e2] X.env := by rfl) (hpl : (backTo pos (starEach [e2] X.env)).any (·.1) = false := by rfl) :
    DE X W g0 (.Call (.Name "max" p) [e, e2] [] pos) (dB fMax2 ts) := de_callB (call_max2 C.cm) rel_max2 (B.at_ "max") bt_max ha hg (by decide) (by decide) he hpl
theorem dc_abs (B : Bi X.mg) (ha : DPA X W g0 [e] ts) (hg : Gl X "abs" := by rfl) (he : starEach [e] X.env = (false, eval e X.env) :: starEach [] X.env := by rfl) (hpl : (backTo pos (starEach [] X.env)).any (·.1) = false := by rfl) :
    DE X W g0 (.Call (.Name "abs" p) [e] [] pos) (dB (on1 fAbs) ts) := de_callB call_abs rel_abs (B.at_ "abs") bt_abs ha hg (by decide) (by decide) he hpl
theorem dc_int (B : Bi X.mg) (ha : DPA X W g0 [e] ts) (hg : Gl X "int" := by rfl) (he : starEach [e] X.env = (false, eval e X.env) :: starEach [] X.env := by rfl) (hpl : (backTo pos (starEach [] X.env)).any (·.1) = false := by rfl) :
    DE X W g0 (.Call (.Name "int" p) [e] [] pos) (dB (on1 fInt) ts) := de_callTy call_int1 rel_int (B.at_ "int") bt_int ha hg (by decide) (by decide) he hpl
theorem dc_list (B : Bi X.mg) (ha : DPA X W g0 [e] ts) (hg : Gl X "list" := by rfl) (he : starEach [e] X.env = (false, eval e X.env) :: starEach [] X.env := by rfl) (hpl : (backTo pos (starEach [] X.env)).any (·.1) = false := by rfl) :
    DE X W g0 (.Call (.Name "list" p) [e] [] pos) (dB (on1 fList) ts) := de_callTy call_list_of relC_list (B.at_ "list") bt_list ha hg (by decide) (by decide) he hpl
theorem df_list (B : Bi X.mg) (ha : DPA X W g0 [e] ts) (hg : Gl X "list" := by rfl) (he : starEach [e] X.env = (false, eval e X.env) :: starEach [] X.env := by rfl) (hpl : (backTo pos (starEach [] X.env)).any (·.1) = false := by rfl) :
    DF X W g0 (.Call (.Name "list" p) [e] [] pos) (dB (on1 fList) ts) := df_callTy call_list_of relF_list (B.at_ "list") bt_list ha hg (by decide) (by decide) he hpl
theorem dc_tuple (B : Bi X.mg) (ha : DPA X W g0 [e] ts) (hg : Gl X "tuple" := by rfl) (he : starEach [e] X.env = (false, eval e X.env) :: starEach [] X.env := by rfl) (hpl : (backTo pos (starEach [] X.env)).any (·.1) = false := by rfl) :
    DE X W g0 (.Call (.Name "tuple" p) [e] [] pos) (dB (on1 fTuple) ts) := de_callTy call_tuple_of relC_tuple (B.at_ "tuple") bt_tuple ha hg (by decide) (by decide) he hpl
/-- - e -/
@[simp] def fNeg : D → (D → Prop) → Prop
  | .int i, P => P (.int (-i))
  | _, _ => False
@[simp] def dUn (f : D → (D → Prop) → Prop) (t : DT) : DT := fun ρ P Ex => t ρ (fun d => f d P) Ex
theorem de_neg (he : DE X W g0 e t) : DE X W g0 (.UnaryOp .USub e pos) (dUn fNeg t) := PE.imp (pe_un un_neg he) fun σ H Q h => by
  obtain ⟨g, ρ, P, Ex, rfl, s0, e, w, q, x⟩ := h
  refine ⟨g, ρ, _, Ex, rfl, s0, e, w, fun d hd v g1 s1 r1 => ?_, x⟩
  cases r1 with
  | int i => exact ⟨i, rfl, q _ hd _ g1 s1 (.int _)⟩
  | _ => exact hd.elim
/-- the operators by names -/
theorem de_add {a b : Expr} {ta tb : DT} (ha : DE X W g0 a ta) (hb : DE X W g0 b tb) : DE X W g0 (.BinOp a .Add b pos) (dOp fAdd ta tb) := de_op opr_add rel_add ha hb
theorem de_sub {a b : Expr} {ta tb : DT} (ha : DE X W g0 a ta) (hb : DE X W g0 b tb) : DE X W g0 (.BinOp a .Sub b pos) (dOp fSub ta tb) := de_op op_sub rel_sub ha hb
theorem de_mul {a b : Expr} {ta tb : DT} (ha : DE X W g0 a ta) (hb : DE X W g0 b tb) : DE X W g0 (.BinOp a .Mult b pos) (dOp fMul ta tb) := de_op opr_mul rel_mul ha hb
theorem de_fdv {a b : Expr} {ta tb : DT} (ha : DE X W g0 a ta) (hb : DE X W g0 b tb) : DE X W g0 (.BinOp a .FloorDiv b pos) (dOp fDiv ta tb) := de_op opr_div rel_div ha hb
theorem de_mod {a b : Expr} {ta tb : DT} (ha : DE X W g0 a ta) (hb : DE X W g0 b tb) : DE X W g0 (.BinOp a .Mod b pos) (dOp fMod ta tb) := de_op op_modN rel_mod ha hb
theorem ce_eq {a b : Expr} {ta tb : DT} (C : Cn X W k) (ha : DE X W g0 a ta) (hb : DE X W g0 b tb) : DE X W g0 (.Compare a [.Eq] [b] pos) (dOp fEq ta tb) := de_cmp (opr_eq C) (rel_eqB false) ha hb (nomark _)
theorem ce_ne {a b : Expr} {ta tb : DT} (C : Cn X W k) (ha : DE X W g0 a ta) (hb : DE X W g0 b tb) : DE X W g0 (.Compare a [.NotEq] [b] pos) (dOp fNe ta tb) := de_cmp (opr_ne C) (rel_eqB true) ha hb (nomark _)
theorem ce_lt {a b : Expr} {ta tb : DT} (ha : DE X W g0 a ta) (hb : DE X W g0 b tb) : DE X W g0 (.Compare a [.Lt] [b] pos) (dOp fLt ta tb) := de_cmp op_lt (rel_cmp _) ha hb (nomark _)
theorem ce_le {a b : Expr} {ta tb : DT} (ha : DE X W g0 a ta) (hb : DE X W g0 b tb) : DE X W g0 (.Compare a [.LtE] [b] pos) (dOp fLe ta tb) := de_cmp op_le (rel_cmp _) ha hb (nomark _)
theorem ce_gt {a b : Expr} {ta tb : DT} (ha : DE X W g0 a ta) (hb : DE X W g0 b tb) : DE X W g0 (.Compare a [.Gt] [b] pos) (dOp fGt ta tb) := de_cmp op_gt (rel_cmp _) ha hb (nomark _)
theorem ce_ge {a b : Expr} {ta tb : DT} (ha : DE X W g0 a ta) (hb : DE X W g0 b tb) : DE X W g0 (.Compare a [.GtE] [b] pos) (dOp fGe ta tb) := de_cmp op_ge (rel_cmp _) ha hb (nomark _)
theorem ce_is {a b : Expr} {ta tb : DT} (ha : DE X W g0 a ta) (hb : DE X W g0 b tb) : DE X W g0 (.Compare a [.Is] [b] pos) (dOp fIs ta tb) := de_cmp op_isN rel_is ha hb (nomark _)
theorem ce_isnot {a b : Expr} {ta tb : DT} (ha : DE X W g0 a ta) (hb : DE X W g0 b tb) : DE X W g0 (.Compare a [.IsNot] [b] pos) (dOp fIsNot ta tb) := de_cmp op_notN rel_isnot ha hb (nomark _)
theorem ce_in {a b : Expr} {ta tb : DT} (ha : DE X W g0 a ta) (hb : DE X W g0 b tb) (hm : behindInMarks .In b = false := by with_unfolding_all rfl) : DE X W g0 (.Compare a [.In] [b] pos) (dOp fIn ta tb) := de_cmp opr_in (rel_inB false) ha hb hm
theorem ce_notin {a b : Expr} {ta tb : DT} (ha : DE X W g0 a ta) (hb : DE X W g0 b tb) (hm : behindInMarks .NotIn b = false := by with_unfolding_all rfl) : DE X W g0 (.Compare a [.NotIn] [b] pos) (dOp fNotIn ta tb) := de_cmp opr_notin (rel_inB true) ha hb hm
theorem ct_eq {a b : Expr} {ta tb : DT} (C : Cn X W k) (ha : DE X W g0 a ta) (hb : DE X W g0 b tb) : DTt X W g0 (.Compare a [.Eq] [b] pos) (dTest (dOp fEq ta tb)) := dt_cmp (opr_eq C) (rel_eqB false) ha hb (nomark _)
theorem ct_ne {a b : Expr} {ta tb : DT} (C : Cn X W k) (ha : DE X W g0 a ta) (hb : DE X W g0 b tb) : DTt X W g0 (.Compare a [.NotEq] [b] pos) (dTest (dOp fNe ta tb)) := dt_cmp (opr_ne C) (rel_eqB true) ha hb (nomark _)
theorem ct_lt {a b : Expr} {ta tb : DT} (ha : DE X W g0 a ta) (hb : DE X W g0 b tb) : DTt X W g0 (.Compare a [.Lt] [b] pos) (dTest (dOp fLt ta tb)) := dt_cmp op_lt (rel_cmp _) ha hb (nomark _)
theorem ct_le {a b : Expr} {ta tb : DT} (ha : DE X W g0 a ta) (hb : DE X W g0 b tb) : DTt X W g0 (.Compare a [.LtE] [b] pos) (dTest (dOp fLe ta tb)) := dt_cmp op_le (rel_cmp _) ha hb (nomark _)
theorem ct_gt {a b : Expr} {ta tb : DT} (ha : DE X W g0 a ta) (hb : DE X W g0 b tb) : DTt X W g0 (.Compare a [.Gt] [b] pos) (dTest (dOp fGt ta tb)) := dt_cmp op_gt (rel_cmp _) ha hb (nomark _)
theorem ct_ge {a b : Expr} {ta tb : DT} (ha : DE X W g0 a ta) (hb : DE X W g0 b tb) : DTt X W g0 (.Compare a [.GtE] [b] pos) (dTest (dOp fGe ta tb)) := dt_cmp op_ge (rel_cmp _) ha hb (nomark _)
theorem ct_is {a b : Expr} {ta tb : DT} (ha : DE X W g0 a ta) (hb : DE X W g0 b tb) : DTt X W g0 (.Compare a [.Is] [b] pos) (dTest (dOp fIs ta tb)) := dt_cmp op_isN rel_is ha hb (nomark _)
theorem ct_isnot {a b : Expr} {ta tb : DT} (ha : DE X W g0 a ta) (hb : DE X W g0 b tb) : DTt X W g0 (.Compare a [.IsNot] [b] pos) (dTest (dOp fIsNot ta tb)) := dt_cmp op_notN rel_isnot ha hb (nomark _)
theorem ct_in {a b : Expr} {ta tb : DT} (ha : DE X W g0 a ta) (hb : DE X W g0 b tb) (hm : behindInMarks .In b = false := by with_unfolding_all rfl) : DTt X W g0 (.Compare a [.In] [b] pos) (dTest (dOp fIn ta tb)) := dt_cmp opr_in (rel_inB false) ha hb hm
theorem ct_notin {a b : Expr} {ta tb : DT} (ha : DE X W g0 a ta) (hb : DE X W g0 b tb) (hm : behindInMarks .NotIn b = false := by with_unfolding_all rfl) : DTt X W g0 (.Compare a [.NotIn] [b] pos) (dTest (dOp fNotIn ta tb)) := dt_cmp opr_notin (rel_inB true) ha hb hm
@[simp] def dOn (f : D → (D → Prop) → Prop) (t : DT) : DT := fun ρ P Ex => t ρ (fun d => f d P) Ex
end
end AU

/-! AuTry: try .. except X; methods of texts. -/
namespace AU
open PySem L2 PySem.Spec PyProof.Rows
/-- which of the exceptions 'except x' takes, as far as it is known -/
def Em (K : PySem.W.Frag) (x : Str) (m : Str → Option Bool) : Prop := ∀ c b, m c = some b → PySem.W.exmOne K (.ref (He.ga K c)) (.ref (He.ga K x)) = some b
@[simp] def dTry (m : Str → Option Bool) (t u : DS) : DS := fun ρ k => t ρ { k with ex := fun ρ' c => match m c with
  | some true => u ρ' k
  | some false => k.ex ρ' c
  | none => False }
section
variable {X : Cx} {W : WX} {g0 : Gh} {k : Nat} {x : Str} {np pos pos' : Pos} {body suite : List Stmt} {b₀ : Stmt} {t u : DS} {m : Str → Option Bool}
theorem dp_try (C : Cn X W k) (hx : XCls X.K X.mg x) (hm : Em X.K x m) (hb : ∀ (W' : WX) (pn : List (Addr × Obj)) (xe : Value → Shared → Prop), Cn (X.tr pn xe) W' k → DPs (X.tr pn xe) W' g0 body t)
    (hu : ∀ (a : Addr) (pn : List (Addr × Obj)), DPs (X.suite a pn) W g0 (b₀ :: suite) u) (hs : X.stack = X.env :: X.outer := by rfl) (hf : X.env.frame = some X.env.locals := by rfl) (hg : Gl X x := by rfl) (hdb : (x == ("__debug__" : Str)) = false := by decide) :
    DP X W g0 (.Try body [.ExceptHandler (some (.Name x np)) none (b₀ :: suite) pos'] [] [] pos) (dTry m t u) :=
  PS.imp (ps_try_only (c := .ref (He.ga X.K x)) (Wout := W) (tb := fun W' => liftS X.K W' g0 t) (ts := fun _ _ _ => liftS X.K W g0 u) hs hf ⟨hg, hdb, .inl hx.gl⟩ C.tk
    (fun W' pn xe tk po => hb W' pn xe ⟨tk, po, C.hr, C.cm, C.nd⟩) (fun a oe cls d pn _ _ => hu a ((a, oe) :: pn))) fun E σ H h => by
    obtain ⟨g, ρ, k, rfl, s0, e, w, l⟩ := h
    refine ⟨g, ρ, _, rfl, s0, e, w, l.nx, l.rt, l.bk, l.ct, fun ρ' c σ' g' s' e' w' => ?_⟩
    dsimp only at w'
    cases hc : m c with
    | none => rw [hc] at w'; exact w'.elim
    | some b =>
      refine ⟨b, hm c b hc, fun hb a _ => ?_, fun hb => ?_⟩
      · rw [hc, hb] at w'
        exact ⟨g', ρ', k, rfl, s', e', w', l⟩
      · rw [hc, hb] at w'
        exact l.ex ρ' c σ' g' s' e' w'

/-! ### x.find(y) -/
@[simp] def onS (P : Str → Prop) : D → Prop
  | .str a => P a
  | _ => False
theorem onS.out {P : Str → Prop} {d : D} (h : onS P d) : ∃ i, d = .str i ∧ P i := by
  cases d with
  | str i => exact ⟨i, rfl, h⟩
  | _ => exact h.elim
@[simp] def dFind (to te : DT) : DT := fun ρ P Ex => to ρ (onS fun a => te ρ (onS fun b => P (.int (Txt.find a b))) Ex) Ex
variable {o e : Expr} {to te : DT} {apos cpos : Pos}
theorem de_find (ho : DE X W g0 o to) (he : DE X W g0 e te) (hbase : attributeBase o "find" X.env (eval o X.env) = eval o X.env := by rfl)
    (hfew : ((backTo cpos (starEach [e] X.env)).all (fun x => !x.1) && (backToKw cpos (keywordEach [] X.env)).all (fun x => x.1.isSome) && decide ([e].length + ([] : List Keyword).length + (if ([] : List Keyword).isEmpty then 0 else 1) < 30)) = true := by rfl)
    (hline : (apos.endLine == cpos.line) = true := by rfl) (hs : starEach [e] X.env = (false, eval e X.env) :: starEach [] X.env := by rfl) (hpl : (backTo cpos (starEach [] X.env)).any (·.1) = false := by rfl) :
    DE X W g0 (.Call (.Attribute o "find" apos) [e] [] cpos) (dFind to te) :=
  PE.imp (pe_bm PySem.F.plainAttrs_str PySem.F.slot_str_find PySem.F.type_str_find mt_find ho (pa_cons he pa_nil hs) hbase hfew hline hs hpl) fun σ H Q h => by
    obtain ⟨g, ρ, P, Ex, rfl, s0, en, w, q, x⟩ := h
    refine ⟨g, ρ, _, Ex, rfl, s0, en, w, fun a ha v g1 s1 r1 => ?_, x⟩
    obtain ⟨z, rfl, hz⟩ := ha.out
    cases r1
    refine ⟨rfl, g1, ρ, _, Ex, rfl, s0.trans s1, en.step s1, hz, fun b hb u g2 s2 r2 => ?_, x.step s1⟩
    obtain ⟨y, rfl, hy⟩ := hb.out
    cases r2
    exact ⟨z, y, rfl, rfl, q _ hy _ g2 (s1.trans s2) (.int _)⟩
end
end AU

/-! AuDict: dicts whose keys are texts; zip. -/
namespace AU
open PySem L2 PySem.Spec PyProof.Rows
def getS (kvs : List (Str × D)) (k : Str) : Option D := (kvs.find? fun kv => decide (kv.1 = k)).map (·.2)
def putS (kvs : List (Str × D)) (k : Str) (v : D) : List (Str × D) :=
  if (kvs.any fun kv => decide (kv.1 = k)) = true then kvs.map (fun kv => if kv.1 = k then (kv.1, v) else kv) else kvs ++ [(k, v)]
section
variable {K : PySem.W.Frag} {g g' : Gh}
theorem RepK.get : ∀ {kvs : List (Key × V)} {ds : List (Str × D)}, RepK K g kvs ds → ∀ x : Str, (∀ d, getS ds x = some d → ∃ v, valV kvs (Sum.inr x) = some v ∧ Rep K g v d) ∧ (getS ds x = none → valV kvs (Sum.inr x) = none)
  | _, _, .nil, x => ⟨fun d h => (by cases h), fun _ => rfl⟩
  | _, _, .cons (k := k) (v := v) (vs := vs) (d := d) (ds := ds) r rs, x => by
    obtain ⟨i1, i2⟩ := RepK.get rs x
    unfold getS valV at *
    by_cases h : k = x
    · subst h
      simp only [List.find?_cons, decide_true]
      exact ⟨fun d' h => ⟨v, rfl, by have : d = d' := Option.some.inj h; rw [← this]; exact r⟩, fun h => by cases h⟩
    · have h2 : ¬ (Sum.inr k : Key) = Sum.inr x := fun z => h (Sum.inr.inj z)
      simp only [List.find?_cons, decide_eq_false h, decide_eq_false h2]
      exact ⟨i1, i2⟩
theorem RepK.any : ∀ {kvs : List (Key × V)} {ds : List (Str × D)}, RepK K g kvs ds → ∀ x : Str, (kvs.any fun kv => decide (kv.1 = (Sum.inr x : Key))) = ds.any fun kv => decide (kv.1 = x)
  | _, _, .nil, x => rfl
  | _, _, .cons (k := k) r rs, x => by
    rw [List.any_cons, List.any_cons, RepK.any rs x]
    by_cases h : k = x
    · subst h; rw [decide_eq_true rfl, decide_eq_true rfl]
    · have h2 : ¬ (Sum.inr k : Key) = Sum.inr x := fun z => h (Sum.inr.inj z)
      rw [decide_eq_false h, decide_eq_false h2]
theorem RepK.mapPut {x : Str} {v : V} {d : D} (r : Rep K g v d) : ∀ {kvs : List (Key × V)} {ds : List (Str × D)}, RepK K g kvs ds →
    RepK K g (kvs.map fun kv => if kv.1 = (Sum.inr x : Key) then (kv.1, v) else kv) (ds.map fun kv => if kv.1 = x then (kv.1, d) else kv)
  | _, _, .nil => .nil
  | _, _, .cons (k := k) q rs => by
    rw [List.map_cons, List.map_cons]
    by_cases h : k = x
    · subst h
      rw [if_pos rfl, if_pos rfl]
      exact .cons r (RepK.mapPut r rs)
    · have h2 : ¬ (Sum.inr k : Key) = Sum.inr x := fun z => h (Sum.inr.inj z)
      rw [if_neg h, if_neg h2]
      exact .cons q (RepK.mapPut r rs)
theorem RepK.app : ∀ {kvs ws : List (Key × V)} {ds es : List (Str × D)}, RepK K g kvs ds → RepK K g ws es → RepK K g (kvs ++ ws) (ds ++ es)
  | _, _, _, _, .nil, s => s
  | _, _, _, _, .cons r rs, s => .cons r (RepK.app rs s)
theorem RepK.put {kvs : List (Key × V)} {ds : List (Str × D)} {x : Str} {v : V} {d : D} (rs : RepK K g kvs ds) (r : Rep K g v d) : RepK K g (putK kvs (Sum.inr x) v) (putS ds x d) := by
  unfold putK putS
  rw [rs.any x]
  split
  · exact RepK.mapPut r rs
  · exact rs.app (.cons r .nil)
end
def mergeS (kvs : List (Str × D)) : List (Str × D) := kvs.foldl (fun acc kv => putS acc kv.1 kv.2) []
/-- the pairs of a display with keys that are texts -/
abbrev DKs := Rho → (List (Str × D) → Prop) → (Str → Prop) → Prop
def dKs : List (DT × DT) → DKs
  | [] => fun _ P _ => P []
  | (tk, tv) :: r => fun ρ P Ex => tk ρ (onS fun x => tv ρ (fun d => dKs r ρ (fun kvs => P ((x, d) :: kvs)) Ex) Ex) Ex
def dDisp (ts : List (DT × DT)) : DT := fun ρ P Ex => dKs ts ρ (fun kvs => kvs.length ≤ 15 ∧ P (.dS (mergeS kvs))) Ex
section
variable {X : Cx} {W : WX} {g0 : Gh} {pos : Pos} {σ : L2.St}
inductive DPr (X : Cx) (W : WX) (g0 : Gh) : List (Option Expr) → List Expr → List (DT × DT) → Prop where
  | nil : DPr X W g0 [] [] []
  | cons {k v : Expr} {tk tv : DT} {ks : List (Option Expr)} {vs : List Expr} {ts : List (DT × DT)} (hk : DE X W g0 k tk) (hv : DE X W g0 v tv) (r : DPr X W g0 ks vs ts) : DPr X W g0 (some k :: ks) (v :: vs) ((tk, tv) :: ts)
theorem dpr_pps {ks : List (Option Expr)} {vs : List Expr} {ts : List (DT × DT)} (h : DPr X W g0 ks vs ts) : PPs X pos ks vs (ts.map fun p => (lift X.K W g0 p.1, lift X.K W g0 p.2)) := by
  induction h with
  | nil => exact pps_nil
  | cons hk hv r ih => exact pps_cons hk hv ih
theorem dks_read : ∀ {ts : List (DT × DT)} {g : Gh} {ρ : Rho} {P : List (Str × D) → Prop} {Ex : Str → Prop} {Q : List (V × V) → Hp → Prop}, Step g0 g → EnvOk X.K g0 g ρ σ → dKs ts ρ P Ex →
    (∀ kvs, P kvs → ∀ (vs : List (Key × V)) (g' : Gh), Step g g' → RepK X.K g' vs kvs → Q (vs.map fun kv => (kV kv.1, kv.2)) g'.H) → XOk X.K W g σ Ex → tPairs (ts.map fun p => (lift X.K W g0 p.1, lift X.K W g0 p.2)) σ g.H Q
  | [], g, ρ, P, Ex, Q, s0, e, w, q, x => q [] w [] g (Step.refl s0.ok) .nil
  | (tk, tv) :: ts, g, ρ, P, Ex, Q, s0, e, w, q, x => by
    refine ⟨g, ρ, _, Ex, rfl, s0, e, w, fun d hd v g1 s1 r1 => ?_, x⟩
    obtain ⟨z, rfl, hz⟩ := hd.out
    cases r1
    refine ⟨g1, ρ, _, Ex, rfl, s0.trans s1, e.step s1, hz, fun d hd v g2 s2 r2 => ?_, x.step s1⟩
    exact dks_read (s0.trans (s1.trans s2)) (e.step (s1.trans s2)) hd (fun kvs hk vs g3 s3 r3 => q _ hk ((Sum.inr z, v) :: vs) g3 (s1.trans (s2.trans s3)) (.cons (r2.step s3) r3)) (x.step (s1.trans s2))
theorem merge_rep {K : PySem.W.Frag} {g : Gh} : ∀ {vs : List (Key × V)} {kvs : List (Str × D)} {ws : List (Key × V)} {acc : List (Str × D)}, RepK K g vs kvs → RepK K g ws acc → RepK K g (mergeK ws vs) (kvs.foldl (fun acc kv => putS acc kv.1 kv.2) acc)
  | _, _, _, _, .nil, s => s
  | _, _, ws, acc, .cons (vs := vs) (ds := ds) (k := k) (v := v) (d := d) r rs, s => merge_rep (vs := vs) (kvs := ds) (ws := putK ws (Sum.inr k) v) (acc := putS acc k d) rs (RepK.put s r)
theorem de_disp {keys : List (Option Expr)} {values : List Expr} {ts : List (DT × DT)} (h : DPr X W g0 keys values ts) (hall : keys.all (·.isSome) = true := by rfl) (hl : keys.length = values.length := by rfl) (h0 : keys ≠ [] := by exact List.cons_ne_nil _ _)
    (h15 : keys.length ≤ 15 := by decide) : DE X W g0 (.Dict keys values pos) (dDisp ts) := PE.imp (pe_disp (dpr_pps h) hall hl h0 h15) fun σ H Q w => by
  obtain ⟨g, ρ, P, Ex, rfl, s0, e, w, q, x⟩ := w
  intro p hp
  have s1 := s0.ok.own (.dK []) hp
  refine dks_read (g := g.own p (.dK [])) (s0.trans s1) (e.step s1) w (fun kvs hk vs g2 s2 r2 => ?_) (x.step s1)
  have ng : (g.own p (.dK [])).G p = none := s0.ok.free hp
  have nm : p ∉ (g.own p (.dK [])).M := s0.ok.notM hp
  have h2 : g2.H p = some (.dK []) := s2.hs p _ upd_same nm
  refine ⟨h2, vs, rfl, by rw [r2.length]; exact hk.1, ?_⟩
  have o2 : Own X.K g (g2) p (.dS []) := (⟨hp, ng, nm, [], upd_same, .nil⟩ : Own X.K g (g.own p (.dK [])) p (.dS [])).step s2
  have eo : EnvOk X.K g g2 [.ow (.dS [])] [some (.ref p)] := ⟨rfl, fun i d h => by
    cases i with
    | zero => cases h
    | succ i => simp at h, fun i d h => by
    cases i with
    | zero => cases h; exact ⟨p, rfl, o2⟩
    | succ i => simp at h, fun i j d e' p' hij h1 h2 => by
    cases i <;> cases j <;> simp at h1 h2 hij⟩
  obtain ⟨s3, e3⟩ := eo.write (X := X) (i := 0) (d := .dS []) (p := p) (o := .dK (mergeK [] vs)) (d' := .dS (mergeS kvs)) (s1.trans s2) rfl rfl ⟨_, upd_same, RepK.up (g := g2) (g' := g2.own p _) (fun _ _ h => h) (fun _ h => h) (merge_rep r2 .nil)⟩
  obtain ⟨p', hp', o3⟩ := e3.ow 0 _ rfl
  cases hp'
  obtain ⟨g4, eh, s4, r4, _⟩ := o3.freeze s3
  have z := q _ hk.2 _ g4 s4 r4
  rw [eh] at z
  exact z
/-- d[k], k a text -/
@[simp] def dGetS (td ty : DT) : DT := fun ρ P Ex => td ρ (fun x => ty ρ (onS fun k => match x with
  | .dS kvs => ∃ d, getS kvs k = some d ∧ P d
  | _ => False) Ex) Ex
theorem hu_of {X : Cx} {W : WX} {k : Nat} (C : Cn X W k) : X.A.units + 1 < cLine := by have := C.hr.un; omega
theorem de_getS {k : Nat} {o i : Expr} {td ty : DT} (C : Cn X W k) (ho : DE X W g0 o td) (hi : DE X W g0 i ty) (hs : NoSl i := by intro _ _; rfl) : DE X W g0 (.Subscript o i pos) (dGetS td ty) := PE.imp (pe_dget (hu_of C) ho hi hs) fun σ H Q w => by
  obtain ⟨g, ρ, P, Ex, rfl, s0, e, w, q, x⟩ := w
  refine ⟨g, ρ, _, Ex, rfl, s0, e, w, fun a ha v g1 s1 r1 => ?_, x⟩
  refine ⟨g1, ρ, _, Ex, rfl, s0.trans s1, e.step s1, ha, fun b hb u g2 s2 r2 => ?_, x.step s1⟩
  obtain ⟨z, rfl, hz⟩ := hb.out
  cases r2
  have r1 := r1.step s2
  cases r1 with
  | @dS a kvs ds hp rs =>
    obtain ⟨d, h1, h2⟩ := hz
    obtain ⟨v, h3, h4⟩ := (rs.get z).1 d h1
    refine ⟨a, v, rfl, .inl ⟨kvs, Sum.inr z, ?_, rfl, h3.symm⟩, q _ h2 _ g2 (s1.trans s2) h4⟩
    rcases s2.ok.le _ _ hp with q | ⟨_, ob, q⟩
    · exact .inl q
    · exact .inr ⟨ob, q⟩
  | _ => exact hz.elim

/-! ### zip of two tuples, two lists -/
def iZip2 (ts : DA) : DIt := fun ρ P Ex => ts ρ (fun ds => match ds with
  | [.tup a, .tup b] => P ((a.zip b).map fun p => .tup [p.1, p.2])
  | [.lst a, .lst b] => P ((a.zip b).map fun p => .tup [p.1, p.2])
  | _ => False) Ex
theorem zip_get : ∀ {a b : List D} {i : Nat} {d : D}, ((a.zip b).map fun p => D.tup [p.1, p.2])[i]? = some d → ∃ x y, a[i]? = some x ∧ b[i]? = some y ∧ d = .tup [x, y]
  | [], _, _, _, h => by simp at h
  | _ :: _, [], _, _, h => by simp at h
  | x :: a, y :: b, 0, d, h => by
    simp at h
    exact ⟨x, y, rfl, rfl, h.symm⟩
  | x :: a, y :: b, i + 1, d, h => by
    obtain ⟨u, v, h1, h2, h3⟩ := zip_get (a := a) (b := b) (i := i) (d := d) (by simpa using h)
    exact ⟨u, v, by simpa using h1, by simpa using h2, h3⟩
theorem zip_end {a b : List D} {i : Nat} (h : ((a.zip b).map fun p => D.tup [p.1, p.2]).length ≤ i) : a.length ≤ i ∨ b.length ≤ i := by
  rw [List.length_map, List.length_zip] at h
  omega
theorem yields_zipT {K : PySem.W.Frag} {gb : Gh} {a b : Addr} {xs ys : List V} {ds es : List D} (ha : TpAt K gb.G a xs) (hb : TpAt K gb.G b ys) (ra : ∀ g, Step gb g → Reps K g xs ds) (rb : ∀ g, Step gb g → Reps K g ys es) :
    Yields K (RZ.ItzT K a b) gb ((ds.zip es).map fun p => .tup [p.1, p.2]) := fun g s i => by
  have la : SqT K g.H a xs := s.ok.sqT (TpAt.up ha s.gs)
  have lb : SqT K g.H b ys := s.ok.sqT (TpAt.up hb s.gs)
  have r1 := ra g s
  have r2 := rb g s
  refine ⟨fun d hd => ?_, fun h => ⟨xs, ys, la, lb, by rw [r1.length, r2.length]; exact zip_end h⟩⟩
  obtain ⟨x, y, h1, h2, rfl⟩ := zip_get hd
  obtain ⟨v1, e1, q1⟩ := r1.get h1
  obtain ⟨v2, e2, q2⟩ := r2.get h2
  refine ⟨⟨xs, ys, v1, v2, la, lb, e1, e2⟩, fun v H' hy => ?_⟩
  obtain ⟨T, u1, u2, rfl, hT, rfl, f1, f2⟩ := hy
  have z1 := f1 xs la
  have z2 := f2 ys lb
  rw [e1] at z1
  rw [e2] at z2
  cases z1; cases z2
  obtain ⟨s2, r⟩ := newTup s.ok hT (.cons q1 (.cons q2 .nil))
  exact ⟨_, rfl, s2, r⟩
theorem yields_zipL {K : PySem.W.Frag} {gb : Gh} {a b : Addr} {xs ys : List V} {ds es : List D} (ha : gb.G a = some (.lst xs)) (hb : gb.G b = some (.lst ys)) (ra : ∀ g, Step gb g → Reps K g xs ds) (rb : ∀ g, Step gb g → Reps K g ys es) :
    Yields K (Itz K a b) gb ((ds.zip es).map fun p => .tup [p.1, p.2]) := fun g s i => by
  have la : SqL K g.H a xs := SqL.of (s.ok.lst (s.gs _ _ ha))
  have lb : SqL K g.H b ys := SqL.of (s.ok.lst (s.gs _ _ hb))
  have r1 := ra g s
  have r2 := rb g s
  refine ⟨fun d hd => ?_, fun h => ⟨xs, ys, la, lb, by rw [r1.length, r2.length]; exact zip_end h⟩⟩
  obtain ⟨x, y, h1, h2, rfl⟩ := zip_get hd
  obtain ⟨v1, e1, q1⟩ := r1.get h1
  obtain ⟨v2, e2, q2⟩ := r2.get h2
  refine ⟨⟨xs, ys, v1, v2, la, lb, e1, e2⟩, fun v H' hy => ?_⟩
  obtain ⟨T, u1, u2, rfl, hT, rfl, f1, f2⟩ := hy
  have z1 := f1 xs la
  have z2 := f2 ys lb
  rw [e1] at z1
  rw [e2] at z2
  cases z1; cases z2
  obtain ⟨s2, r⟩ := newTup s.ok hT (.cons q1 (.cons q2 .nil))
  exact ⟨_, rfl, s2, r⟩
theorem di_zip2 {a b : Expr} {ts : DA} {p pos tpos : Pos} {elts : List Expr} {kk : Nat} (B : Bi X.mg) (ha : DPA X W g0 [a, b] ts) (hg : Gl X "zip" := by rfl)
    (hs : starEach [a, b] X.env = (false, eval a X.env) :: starEach [b] X.env := by rfl) (hpl : (backTo pos (starEach [b] X.env)).any (·.1) = false := by rfl) :
    DI X W g0 (.Tuple elts kk tpos) (.Call (.Name "zip" p) [a, b] [] pos) (iZip2 ts) :=
  PI.imp (RZ.pi_zipA hg (B.at_ "zip") ha hs hpl) fun σ H R h => by
    obtain ⟨g, ρ, P, Ex, rfl, s0, e, w, q, x⟩ := h
    refine ⟨g, ρ, _, _, rfl, s0, e, w, fun ds hd vs g1 s1 r1 => ?_, x⟩
    split at hd
    · rename_i da db
      cases r1 with
      | cons r rs => cases rs with
        | cons r' rs =>
          cases rs
          cases r with
          | tup ha ra => cases r' with
            | tup hb rb =>
              exact ⟨_, _, _, _, rfl, .inr ⟨s1.ok.sqT ha, s1.ok.sqT hb, q _ hd _ g1 s1 (yields_zipT (gb := g0.re g1) ha hb (fun g s => Reps.up (g := g1) s.gs s.ms ra) (fun g s => Reps.up (g := g1) s.gs s.ms rb))⟩⟩
    · rename_i da db
      cases r1 with
      | cons r rs => cases rs with
        | cons r' rs =>
          cases rs
          cases r with
          | lst ha ra => cases r' with
            | lst hb rb =>
              exact ⟨_, _, _, _, rfl, .inl ⟨SqL.of (s1.ok.lst ha), SqL.of (s1.ok.lst hb), q _ hd _ g1 s1 (yields_zipL (gb := g0.re g1) ha hb (fun g s => Reps.up (g := g1) s.gs s.ms ra) (fun g s => Reps.up (g := g1) s.gs s.ms rb))⟩⟩
    · exact hd.elim
end
end AU

/-! AuComp: dict comprehensions with keys that are texts; sorted. -/
namespace AU
open PySem L2 PySem.Spec PyProof.Rows
def dcN (gt : DG) (tc : DB) (tk te : DT) (ρ : Rho) : List D → List (Str × D) → (List (Str × D) → Prop) → Prop
  | [], acc, P => P acc
  | d :: ds, acc, P => gt d ρ fun ρ1 => tc ρ1 (fun b => if b = true then tk ρ1 (onS fun k => te ρ1 (fun y => acc.length < 16777216 ∧ dcN gt tc tk te ρ ds (putS acc k y) P) noX) noX else dcN gt tc tk te ρ ds acc P) noX
@[simp] def dDc (t : DIt) (gt : DG) (tc : DB) (tk te : DT) (sl : List Nat) : DT := fun ρ P Ex => t ρ (fun ds => dcN gt tc tk te (wipeD ρ sl) ds [] fun acc => P (.dS acc)) Ex
section
variable {X : Cx} {W : WX} {g0 : Gh} {σ : L2.St}
/-- what stands while the list D grows -/
structure DcI (K : PySem.W.Frag) (gb : Gh) (D : Addr) (vs : List (Key × V)) (ds : List (Str × AU.D)) (g : Gh) : Prop where
  st : Step gb g
  ng : g.G D = none
  nm : D ∉ g.M
  at_ : g.H D = some (.dK vs)
  rs : RepK K g vs ds
theorem DcI.step {K : PySem.W.Frag} {gb g g' : Gh} {D : Addr} {vs : List (Key × V)} {ds : List (Str × AU.D)} (i : DcI K gb D vs ds g) (s : Step g g') : DcI K gb D vs ds g' where
  st := i.st.trans s
  ng := by
    cases q : g'.G D with
    | none => rfl
    | some z =>
      rcases s.gn D z q with h | h | h
      · rw [i.ng] at h; cases h
      · rw [i.at_] at h; cases h
      · rcases s.ok.le D z q with y | ⟨y, ob, _⟩
        · rw [s.hs D _ i.at_ i.nm] at y; cases y; exact h.elim
        · cases z <;> first | exact y.elim | exact h.elim
  nm := fun hm => by
    rcases s.mn D hm with h | h
    · exact i.nm h
    · rw [i.at_] at h; cases h
  at_ := s.hs D _ i.at_ i.nm
  rs := i.rs.step s
theorem DcI.add {K : PySem.W.Frag} {gb g : Gh} {D : Addr} {vs : List (Key × V)} {ds : List (Str × AU.D)} {k : Str} {v : V} {d : AU.D} (n0 : gb.H D = none) (i : DcI K gb D vs ds g) (r : Rep K g v d) : DcI K gb D (putK vs (Sum.inr k) v) (putS ds k d) (g.own D (.dK (putK vs (Sum.inr k) v))) := by
  have ne : ∀ a o, g.G a = some o → a ≠ D := fun a o h => ne_of_none h i.ng
  have nM : ∀ a ∈ g.M, a ≠ D := fun a h z => i.nm (z ▸ h)
  have up : ∀ a, a ≠ D → upd g.H D (.dK (putK vs (Sum.inr k) v)) a = g.H a := fun a h => upd_ne h
  refine ⟨⟨i.st.gs, i.st.gn, i.st.ms, i.st.mn, fun a o h hm => ?_, ⟨fun a o h => ?_, i.st.ok.dis, fun a hm => ?_⟩⟩, i.ng, i.nm, upd_same, RepK.up (g := g) (g' := g.own D (.dK (putK vs (Sum.inr k) v))) (fun _ _ h => h) (fun _ h => h) (RepK.put i.rs r)⟩
  · show upd g.H D (.dK (putK vs (Sum.inr k) v)) a = some o
    rw [up a (ne_of_none h n0)]
    exact i.st.hs a o h hm
  · have := i.st.ok.le a o h
    show upd g.H D (.dK (putK vs (Sum.inr k) v)) a = some o ∨ _
    rw [up a (ne a o h)]
    rcases this with q | ⟨q, ob, q2⟩
    · exact .inl q
    · refine .inr ⟨q, ob, ?_⟩
      show upd g.H D (.dK (putK vs (Sum.inr k) v)) a = _
      rw [up a (ne a o h)]; exact q2
  · obtain ⟨l, ns, j, c, st, h1, h2⟩ := i.st.ok.mok a hm
    refine ⟨l, ns, j, c, st, ?_, h2⟩
    show upd g.H D (.dK (putK vs (Sum.inr k) v)) a = _
    rw [up a (nM a hm)]; exact h1
/-- what stands ahead of a turn -/
def DcW (K : PySem.W.Frag) (gb g1 : Gh) (ρ : Rho) (σ : L2.St) (gt : DG) (tc : DB) (tk te : DT) (D : Addr) (ds : List AU.D) (P : List (Str × AU.D) → Prop) (H : Hp) : Prop :=
  ∃ (g : Gh) (vs : List (Key × V)) (acc : List (Str × AU.D)), g.H = H ∧ DcI K g1 D vs acc g ∧ EnvOk K gb g ρ σ ∧ NoOw ρ σ D ∧ dcN gt tc tk te ρ ds acc P
theorem dc_main {J : It} {gb g1 : Gh} {ρ : Rho} {σ : L2.St} {sl : List Nat} {gt : DG} {tc : DB} {tk te : DT} {ds : List AU.D} {P : List (Str × AU.D) → Prop} {Qd : Hp → Prop} {D : Addr} (s : Step gb g1) (e : EnvOk X.K gb g1 ρ σ) (y : Yields X.K J gb ds) (hD : g1.H D = none)
    (w : dcN gt tc tk te ρ ds [] P) (q : ∀ vs acc g, DcI X.K g1 D vs acc g → P acc → Qd g.H) (wi : L2.wipe σ sl = σ) :
    ∃ Wi : Nat → Nat → Hp → Prop, (∃ m, Wi 0 m (upd g1.H D (.dK []))) ∧ ∀ i m H, Wi i m H → (J.stop i H ∧ Qd H) ∨ (J.go i H ∧ ∃ Nx : Hp → Prop, (∀ H', Nx H' → ∃ m', m' < m ∧ Wi (i + 1) m' H') ∧
      ∀ x H', J.yld i H x H' → ∃ gb, liftG X.K gb sl gt x σ H' fun σ2 H2 => L2.wipe σ2 sl = σ ∧ ∃ gb, liftB X.K noW gb tc σ2 H2 fun b H3 =>
        if b = true then ∃ gb, lift X.K noW gb tk σ2 H3 fun y H4 => ∃ gb, lift X.K noW gb te σ2 H4 fun z H5 => ∃ kvs k, y = kV k ∧ H5 D = some (.dK kvs) ∧ kvs.length < sizeLine ∧ Nx (upd H5 D (.dK (putK kvs k z))) else Nx H3) := by
  have s1 := s.ok.own (.dK []) hD
  refine ⟨fun i m H => m = ds.length - i ∧ i ≤ ds.length ∧ DcW X.K gb g1 ρ σ gt tc tk te D (ds.drop i) P H, ⟨_, rfl, Nat.zero_le _, g1.own D (.dK []), [], [], rfl,
    ⟨s1, s.ok.free hD, s.ok.notM hD, upd_same, .nil⟩, e.step s1, e.free hD, by rw [List.drop_zero]; exact w⟩, ?_⟩
  rintro i m H ⟨rfl, hi, g, vs, acc, rfl, li, e, no, w⟩
  obtain ⟨y1, y2⟩ := y g (s.trans li.st) i
  by_cases hlt : i < ds.length
  · rw [List.drop_eq_getElem_cons hlt] at w
    obtain ⟨go, yl⟩ := y1 _ (List.getElem?_eq_getElem hlt)
    refine .inr ⟨go, fun H => DcW X.K gb g1 ρ σ gt tc tk te D (ds.drop (i + 1)) P H, fun H' f => ⟨_, by omega, rfl, hlt, f⟩, fun x H' hx => ?_⟩
    obtain ⟨g', rfl, s', r'⟩ := yl x H' hx
    have l' := li.step s'
    refine ⟨gb, g', ρ, _, _, rfl, s.trans l'.st, e.step s', r', w, fun ρ3 σ3 e3 z3 w3 => ⟨z3.trans wi, gb, g', ρ3, _, _, rfl, s.trans l'.st, e3, w3, fun b hb g4 s4 => ?_, fun _ z => z.elim⟩⟩
    have l4 := l'.step s4
    have eb : EnvOk X.K gb g4 ρ σ := (e.step s').step s4
    cases b with
    | true =>
      rw [if_pos rfl] at hb
      dsimp only
      rw [if_pos rfl]
      refine ⟨gb, g4, ρ3, _, _, rfl, s.trans l4.st, e3.step s4, hb, fun kd hk v g5 s5 r5 => ?_, fun _ z => z.elim⟩
      have l5 := l4.step s5
      obtain ⟨kk, rfl, hk⟩ := hk.out
      cases r5
      refine ⟨gb, g5, ρ3, _, _, rfl, s.trans l5.st, (e3.step s4).step s5, hk, fun yd hy v g6 s6 r6 => ?_, fun _ z => z.elim⟩
      have l6 := l5.step s6
      exact ⟨vs, Sum.inr kk, rfl, l6.at_, by rw [l6.rs.length, sizeLine_eq]; exact hy.1, g6.own D (.dK (putK vs (Sum.inr kk) v)), putK vs (Sum.inr kk) v, putS acc kk yd, rfl, l6.add hD r6, ((eb.step s5).step s6).put no, no, hy.2⟩
    | false =>
      rw [if_neg Bool.false_ne_true] at hb
      dsimp only
      rw [if_neg Bool.false_ne_true]
      exact ⟨g4, vs, acc, rfl, l4, eb, no, hb⟩
  · have h0 : ds.length ≤ i := Nat.le_of_not_lt hlt
    rw [List.drop_of_length_le h0] at w
    exact .inl ⟨y2 h0, q _ _ _ li w⟩

theorem DcI.toOwn {K : PySem.W.Frag} {g0 g1 g : Gh} {D : Addr} {vs : List (Key × V)} {ds : List (Str × AU.D)} (s : Step g0 g1) (hD : g1.H D = none) (i : DcI K g1 D vs ds g) : Own K g0 g D (.dS ds) := ⟨s.none hD, i.ng, i.nm, vs, i.at_, i.rs⟩
theorem lift_dc {sl : List Nat} {t : DIt} {gt : DG} {tc : DB} {tk te : DT} {σ : L2.St} {H : Hp} {Q : VK} (h : lift X.K W g0 (dDc t gt tc tk te sl) σ H Q) :
    tDc (liftI X.K W g0 t) (fun v σ H Q => ∃ gb, liftG X.K gb sl gt v σ H Q) (fun σ H Q => ∃ gb, liftB X.K noW gb tc σ H Q) (fun σ H Q => ∃ gb, lift X.K noW gb tk σ H Q) (fun σ H Q => ∃ gb, lift X.K noW gb te σ H Q) sl σ H Q := by
  obtain ⟨g, ρ, P, Ex, rfl, s0, e, w, q, x⟩ := h
  refine ⟨g, ρ, _, _, rfl, s0, e, w, fun ds hd J g1 s1 y1 => ?_, x⟩
  intro D hD
  have s01 := s0.trans s1
  have e1 : EnvOk X.K (g0.re g1) g1 (wipeD ρ sl) (L2.wipe σ sl) := ((e.step s1).re).wipe sl
  have hq : ∀ vs acc g, DcI X.K g1 D vs acc g → P (.dS acc) → Q (.ref D) g.H := fun vs acc g i hp => by
    obtain ⟨g', eh, s', r', _⟩ := (i.toOwn (Step.refl s1.ok) hD).freeze i.st
    rw [← eh]
    exact q _ hp _ g' (s1.trans s') r'
  exact dc_main (Qd := Q (.ref D)) (s01.to s01 (fun _ _ h => h) fun _ h => h) e1 y1 hD hd hq (wipe_wipe σ sl)
theorem liftF_dc {sl : List Nat} {t : DIt} {gt : DG} {tc : DB} {tk te : DT} {σ : L2.St} {H : Hp} {Q : VK} (h : liftF X.K W g0 (dDc t gt tc tk te sl) σ H Q) :
    tDc (liftI X.K W g0 t) (fun v σ H Q => ∃ gb, liftG X.K gb sl gt v σ H Q) (fun σ H Q => ∃ gb, liftB X.K noW gb tc σ H Q) (fun σ H Q => ∃ gb, lift X.K noW gb tk σ H Q) (fun σ H Q => ∃ gb, lift X.K noW gb te σ H Q) sl σ H Q := by
  obtain ⟨g, ρ, P, Ex, rfl, s0, e, w, q, x⟩ := h
  refine ⟨g, ρ, _, _, rfl, s0, e, w, fun ds hd J g1 s1 y1 => ?_, x⟩
  intro D hD
  have s01 := s0.trans s1
  have e1 : EnvOk X.K (g0.re g1) g1 (wipeD ρ sl) (L2.wipe σ sl) := ((e.step s1).re).wipe sl
  have hq : ∀ vs acc g, DcI X.K g1 D vs acc g → P (.dS acc) → Q (.ref D) g.H := fun vs acc g i hp => q _ hp D g (s1.trans i.st) (s1.none hD) (i.toOwn s01 hD)
  exact dc_main (Qd := Q (.ref D)) (s01.to s01 (fun _ _ h => h) fun _ h => h) e1 y1 hD hd hq (wipe_wipe σ sl)

structure DcB (X : Cx) (k : Nat) (scope : Scope) (own : List (Str × Nat)) (tg : Expr) (ifs : List Expr) (kx elt : Expr) (gt : DG) (tc : DB) (tk te : DT) : Prop where
  bk : ∀ (s : Shared) (H : Hp) (Ca : Addr) (cl : List (Str × Addr)) (fp : List Addr), Cn (AU.blk X s H scope Ca cl fp) noW k → ∀ gb, DPG (AU.blk X s H scope Ca cl fp) gb (own.map (·.2)) tg gt ∧ DTs (AU.blk X s H scope Ca cl fp) noW gb ifs tc ∧ DE (AU.blk X s H scope Ca cl fp) noW gb kx tk ∧ DE (AU.blk X s H scope Ca cl fp) noW gb elt te
theorem de_dc {kx elt tg iter : Expr} {ifs : List Expr} {scope : Scope} {own : List (Str × Nat)} {pos : Pos} {t : DIt} {gt : DG} {tc : DB} {tk te : DT} {k : Nat} (C : Cn X W k) (hi : DI X W g0 tg iter t) (ok : BlkOk X.N X.env.scope scope own) (b : DcB X k scope own tg ifs kx elt gt tc tk te) (hs : ∀ x, foldedSetIterable iter X.env x = pure x := by intro _; rfl) :
    DE X W g0 (.DictComp kx elt [⟨tg, iter, ifs, 0⟩] scope pos) (dDc t gt tc tk te (own.map (·.2))) :=
  PE.imp (pe_dc (g := fun v σ H Q => ∃ gb, liftG X.K gb (own.map (·.2)) gt v σ H Q) (tt := fun σ H Q => ∃ gb, liftB X.K noW gb tc σ H Q) (tk := fun σ H Q => ∃ gb, lift X.K noW gb tk σ H Q) (tv := fun σ H Q => ∃ gb, lift X.K noW gb te σ H Q) C.cm C.nd hi ok
    (fun s H Ca cl fp => ⟨fun pins s' σ H v u Q I r ⟨gb, w⟩ => ((b.bk s _ Ca cl fp (C.blk s _ scope Ca cl fp) gb).1).run pins s' σ H v u Q I r w⟩)
    (fun s H Ca cl fp => ⟨fun pins s' σ H Q I ⟨gb, w⟩ => ((b.bk s _ Ca cl fp (C.blk s _ scope Ca cl fp) gb).2.1).run pins s' σ H Q I w⟩)
    (fun s H Ca cl fp => ⟨fun pins s' σ H Q I ⟨gb, w⟩ => ((b.bk s _ Ca cl fp (C.blk s _ scope Ca cl fp) gb).2.2.1).run pins s' σ H Q I w⟩)
    (fun s H Ca cl fp => ⟨fun pins s' σ H Q I ⟨gb, w⟩ => ((b.bk s _ Ca cl fp (C.blk s _ scope Ca cl fp) gb).2.2.2).run pins s' σ H Q I w⟩) hs) fun σ H Q h => lift_dc h
end
end AU

/-! AuOwn: the text's own operators on chances. -/
namespace AU
open PySem L2 PySem.Spec PyProof.Rows
/-- a def of two values that raises nothing, for op, on instances of the class at C -/
def rOp (K : PySem.W.Frag) (C : Addr) (S : Spec) : R2 := fun x y H Q => ∃ (a dx : Addr) (fs : List (Str × V)) (b dy : Addr) (gs : List (Str × V)), x = .ref a ∧ y = .ref b ∧ H a = some (.ins C dx fs) ∧ H b = some (.ins C dy gs) ∧ spD K S [x, y] H Q fun _ _ _ => False
theorem back_of {v : V} {u : Value} {Q : Value → Shared → Prop} {s : Shared} (r : RelV v u) (q : Q u s) : PySem.W.CmpBack Q u s := by
  cases u with
  | notImplemented => cases v <;> first | (obtain ⟨_, e⟩ := (r : ∃ t, _); cases e; done) | cases r
  | _ => exact q
section
variable {X : Cx} {W : WX} {k j : Nat} {S : Spec}
theorem no_pass {σ : L2.St} : PassesAt (L2.CX X.prog X.w) X σ (fun _ _ _ => False) := fun pins H s e s' I h => by
  obtain ⟨_, _, _, _, _, _, _, _, _, _, _, _, z⟩ := h
  exact z.elim
theorem opr_own {op : Operator} {C f : Addr} {fd : FuncData} {ps : List Str} (cn : Cn X W k) (F : FnOk X.prog X.w X.K X.mg X.base (L2.CX X.prog X.w) j f fd ps (spD X.K S)) (hj : j ≤ k) (hb : Binds X.K fd ps []) (hc : PySem.W.selfFirst X.K C = true)
    (hs : PySem.W.findIn X.K (.ref C) (PySem.dunder op.info.2) = some (some (.ref f))) (hf : PySem.W.isFn X.K (.ref f) = true) : OpR X (binaryOp op) (rOp X.K C S) := by
  intro pins s σ H x y v u Q I rx ry h
  obtain ⟨a, dx, fs, b, dy, gs, rfl, rfl, ha, hb', q⟩ := h
  cases (show v = Value.ref a from rx)
  cases (show u = Value.ref b from ry)
  obtain ⟨mA, J, _⟩ := ins_get I.hok ha
  obtain ⟨mB, J', _⟩ := ins_get I.hok hb'
  obtain ⟨od, J, _⟩ := J.look
  obtain ⟨od', J', _⟩ := J'.look
  obtain ⟨m, hF⟩ := I.fr
  refine PySem.W.binop_K hF I.ok.mod.kin J J'.type hc hs hf ?_
  refine wpAny_mono (run_fnS (us := [.ref a, .ref b]) (vs := [.ref a, .ref b]) (E := fun _ _ _ _ => False) F (cn.hr.mono hj) hb no_pass I (.cons rfl (.cons rfl .nil)) q) (fun w s' z => ?_) fun _ _ x => x
  obtain ⟨z', H', I', rz, qz⟩ := z
  exact back_of rz ⟨z', H', I', rz, qz⟩
end
section
variable {X : Cx} {W : WX} {k j : Nat} {S : Spec}
/-- .. == and the like -/
theorem opr_cmpOwn {op : CmpOp} {C f : Addr} {fd : FuncData} {ps : List Str} (cn : Cn X W k) (hop : ∀ a b, compareOp op a b = richCompare op a b) (F : FnOk X.prog X.w X.K X.mg X.base (L2.CX X.prog X.w) j f fd ps (spD X.K S)) (hj : j ≤ k) (hb : Binds X.K fd ps [])
    (hs : PySem.W.findIn X.K (.ref C) (cmpInfo op).2.1 = some (some (.ref f))) (hf : PySem.W.isFn X.K (.ref f) = true) : OpR X (compareOp op) (rOp X.K C S) := by
  intro pins s σ H x y v u Q I rx ry h
  obtain ⟨a, dx, fs, b, dy, gs, rfl, rfl, ha, hb', q⟩ := h
  cases (show v = Value.ref a from rx)
  cases (show u = Value.ref b from ry)
  obtain ⟨mA, J, _⟩ := ins_get I.hok ha
  obtain ⟨mB, J', _⟩ := ins_get I.hok hb'
  obtain ⟨od, J, _⟩ := J.look
  obtain ⟨od', J', _⟩ := J'.look
  obtain ⟨m, hF⟩ := I.fr
  rw [hop]
  refine PySem.W.cmp_K (op := op) (tb := .ref C) cn.hr.units0 hF I.ok.mod.kin J J'.type (by simp [PySem.W.notFirst]) hs hf ?_
  refine wpAny_mono (run_fnS (us := [.ref a, .ref b]) (vs := [.ref a, .ref b]) (E := fun _ _ _ _ => False) F (cn.hr.mono hj) hb no_pass I (.cons rfl (.cons rfl .nil)) q) (fun w s' z => ?_) fun _ _ x => x
  obtain ⟨z', H', I', rz, qz⟩ := z
  exact back_of rz ⟨z', H', I', rz, qz⟩
end
def isCh : D → Bool
  | .ch _ _ => true
  | _ => false
def fOwn (S : Spec) : D → D → (D → Prop) → Prop := fun a b P => isCh a = true ∧ isCh b = true ∧ S [a, b] P fun _ => False
theorem rel_own {K : PySem.W.Frag} {S : Spec} : Rel2 K (rOp K (He.ga K "Chance") S) (fOwn S) := by
  intro g0 g x y a b P Q s rx ry w q
  obtain ⟨h1, h2, w⟩ := w
  cases rx with
  | ch ga gt gb => cases ry with
    | ch ga' gt' gb' => exact ⟨_, _, _, _, _, _, rfl, rfl, s.ok.ins ga, s.ok.ins ga', g, _, P, fun _ => False, rfl, s.ok, .cons (.ch ga gt gb) (.cons (.ch ga' gt' gb') .nil), w, q, fun _ z => z.elim⟩
    | _ => cases h2
  | _ => cases h1
end AU

/-! AuCh: the fields of a chance. -/
namespace AU
open PySem L2 PySem.Spec PyProof.Rows
/-- what is asked of the class Chance -/
structure ChK (K : PySem.W.Frag) (mg : Str → Option Value) : Prop where
  cl : Cls K (He.ga K "Chance")
  nt : NoAttr K (He.ga K "Chance") "top"
  nb : NoAttr K (He.ga K "Chance") "bottom"
  mkr : Mk K (He.ga K "Chance") (He.ma K (He.ga K "Chance") "__init__")
  gl : mg "Chance" = some (.ref (He.ga K "Chance"))
@[simp] def termsD (tp : List (List Int × Int)) : D := .dT (tp.map fun q => (q.1, D.int q.2))
@[simp] def partsD (bt : List Int) : D := .tup (bt.map D.int)
theorem repT_ints {K : PySem.W.Frag} {g : Gh} : ∀ tp : List (List Int × Int), RepT K g (tp.map fun q => (kI q.1, V.int q.2)) (tp.map fun q => (q.1, D.int q.2))
  | [] => .nil
  | (k, i) :: r => .cons (.int i) (repT_ints r)
theorem chF_top (t b : Addr) : (chF t b).lookup ("top" : Str) = some (V.ref t) := by
  unfold chF
  rw [lookup_putF, if_neg (by decide +kernel), lookup_putF, if_pos rfl]
theorem chF_bot (t b : Addr) : (chF t b).lookup ("bottom" : Str) = some (V.ref b) := by
  unfold chF
  rw [lookup_putF, if_pos rfl]
@[simp] def dTop (t : DT) : DT := fun ρ P Ex => t ρ (fun d => match d with
  | .ch tp _ => P (termsD tp)
  | _ => False) Ex
@[simp] def dBot (t : DT) : DT := fun ρ P Ex => t ρ (fun d => match d with
  | .ch _ bt => P (partsD bt)
  | _ => False) Ex
section
variable {X : Cx} {W : WX} {g0 : Gh} {e : Expr} {t : DT} {pos : Pos}
theorem de_top (T : ChK X.K X.mg) (he : DE X W g0 e t) (hb : attributeBase e "top" X.env (eval e X.env) = eval e X.env := by rfl) : DE X W g0 (.Attribute e "top" pos) (dTop t) := PE.imp (pe_fld he hb) fun σ H Q h => by
  obtain ⟨g, ρ, P, Ex, rfl, s0, e, w, q, x⟩ := h
  refine ⟨g, ρ, _, Ex, rfl, s0, e, w, fun d hd v g1 s1 r1 => ?_, x⟩
  cases r1 with
  | ch ga gt gb => exact ⟨_, _, _, _, _, rfl, s1.ok.ins ga, T.cl, T.nt, chF_top _ _, q _ hd _ g1 s1 (.dT gt (repT_ints _))⟩
  | _ => exact hd.elim
theorem de_bot (T : ChK X.K X.mg) (he : DE X W g0 e t) (hb : attributeBase e "bottom" X.env (eval e X.env) = eval e X.env := by rfl) : DE X W g0 (.Attribute e "bottom" pos) (dBot t) := PE.imp (pe_fld he hb) fun σ H Q h => by
  obtain ⟨g, ρ, P, Ex, rfl, s0, e, w, q, x⟩ := h
  refine ⟨g, ρ, _, Ex, rfl, s0, e, w, fun d hd v g1 s1 r1 => ?_, x⟩
  cases r1 with
  | ch ga gt gb => exact ⟨_, _, _, _, _, rfl, s1.ok.ins ga, T.cl, T.nb, chF_bot _ _, q _ hd _ g1 s1 (.tup gb (reps_ints _))⟩
  | _ => exact hd.elim
end

/-! ### Chance(terms, parts) -/
/-- where an instance is being made: at x, nothing else knows it -/
structure Making (K : PySem.W.Frag) (gb g : Gh) (x : Addr) (dx : Addr) (fs : List (Str × V)) : Prop where
  st : Step gb g
  n0 : gb.H x = none
  ng : g.G x = none
  nm : x ∉ g.M
  at_ : g.H x = some (.ins (He.ga K "Chance") dx fs)
theorem Making.step {K : PySem.W.Frag} {gb g g' : Gh} {x dx : Addr} {fs : List (Str × V)} (m : Making K gb g x dx fs) (s : Step g g') : Making K gb g' x dx fs where
  st := m.st.trans s
  n0 := m.n0
  ng := by
    cases q : g'.G x with
    | none => rfl
    | some z =>
      rcases s.gn x z q with h | h | h
      · rw [m.ng] at h; cases h
      · rw [m.at_] at h; cases h
      · rcases s.ok.le x z q with y | ⟨y, ob, _⟩
        · rw [s.hs x _ m.at_ m.nm] at y; cases y; exact h.elim
        · cases z <;> first | exact y.elim | exact h.elim
  nm := fun hm => by
    rcases s.mn x hm with h | h
    · exact m.nm h
    · rw [m.at_] at h; cases h
  at_ := s.hs x _ m.at_ m.nm
theorem Making.put {K : PySem.W.Frag} {gb g : Gh} {x dx : Addr} {fs gs : List (Str × V)} (m : Making K gb g x dx fs) : Making K gb (g.own x (.ins (He.ga K "Chance") dx gs)) x dx gs := by
  have ne : ∀ a o, g.G a = some o → a ≠ x := fun a o h => ne_of_none h m.ng
  have nM : ∀ a ∈ g.M, a ≠ x := fun a h z => m.nm (z ▸ h)
  refine ⟨⟨m.st.gs, m.st.gn, m.st.ms, m.st.mn, fun a u h hm => ?_, ⟨fun a u h => ?_, m.st.ok.dis, fun a hm => ?_⟩⟩, m.n0, m.ng, m.nm, upd_same⟩
  · show upd g.H x _ a = some u
    rw [upd_ne (ne_of_none h m.n0)]
    exact m.st.hs a u h hm
  · show upd g.H x _ a = some u ∨ _
    rw [upd_ne (ne a u h)]
    rcases m.st.ok.le a u h with q | ⟨q, ob, q2⟩
    · exact .inl q
    · refine .inr ⟨q, ob, ?_⟩
      show upd g.H x _ a = _
      rw [upd_ne (ne a u h)]; exact q2
  · obtain ⟨l, ns, j, c, st, h1, h2⟩ := m.st.ok.mok a hm
    refine ⟨l, ns, j, c, st, ?_, h2⟩
    show upd g.H x _ a = _
    rw [upd_ne (nM a hm)]; exact h1
/-- done: it is a chance -/
theorem Making.done {K : PySem.W.Frag} {gb g : Gh} {x dx t b : Addr} {tp : List (List Int × Int)} {bt : List Int} (m : Making K gb g x dx (chF t b)) (ht : g.G t = some (.dT (tp.map fun q => (kI q.1, V.int q.2)))) (hb : TpAt K g.G b (bt.map V.int)) :
    ∃ g', g'.H = g.H ∧ Step gb g' ∧ Rep K g' (.ref x) (.ch tp bt) := by
  have gs : ∀ b w, g.G b = some w → upd g.G x (.ins (He.ga K "Chance") dx (chF t b)) b = some w := fun b w h => by rw [upd_ne (ne_of_none h m.ng)]; exact h
  refine ⟨⟨upd g.G x (.ins (He.ga K "Chance") dx (chF t b)), g.M, g.H⟩, rfl, ⟨fun a w h => ?_, fun a w h => ?_, m.st.ms, m.st.mn, m.st.hs, ⟨fun a w h => ?_, fun a hm => ?_, fun a hm => ?_⟩⟩, ?_⟩
  · show upd g.G x _ a = some w
    rw [upd_ne (ne_of_none (m.st.gs a w h) m.ng)]
    exact m.st.gs a w h
  · have h' : upd g.G x (.ins (He.ga K "Chance") dx (chF t b)) a = some w := h
    by_cases ha : a = x
    · right; left; rw [ha]; exact m.n0
    · rw [upd_ne ha] at h'
      exact m.st.gn a w h'
  · have h' : upd g.G x (.ins (He.ga K "Chance") dx (chF t b)) a = some w := h
    by_cases ha : a = x
    · subst ha
      rw [upd_same] at h'
      cases h'
      exact .inl m.at_
    · rw [upd_ne ha] at h'
      exact m.st.ok.le a w h'
  · show upd g.G x _ a = none
    have ha : a ≠ x := fun z => m.nm (z ▸ hm)
    rw [upd_ne ha]
    exact m.st.ok.dis a hm
  · obtain ⟨l, ns, i, c, st, h1, h2, h3⟩ := m.st.ok.mok a hm
    refine ⟨l, ns, i, c, st, h1, ?_, h3⟩
    show upd g.G x _ l = _
    rw [upd_ne (ne_of_none h2 m.ng)]; exact h2
  · refine .ch (dx := dx) (t := t) (b := b) (show upd g.G x _ x = _ from upd_same) (show upd g.G x _ t = _ from ?_) ?_
    · rw [upd_ne (ne_of_none ht m.ng)]; exact ht
    · refine TpAt.up hb fun c w h => ?_
      show upd g.G x _ c = some w
      rw [upd_ne (ne_of_none h m.ng)]; exact h
theorem intsT_of {K : PySem.W.Frag} {g : Gh} : ∀ {kvs : List (List Key × V)} {tp : List (List Int × Int)}, RepT K g kvs (tp.map fun q => (q.1, D.int q.2)) → kvs = tp.map fun q => (kI q.1, V.int q.2)
  | _, [], .nil => rfl
  | _, (k, i) :: tp, .cons r rs => by
    cases r
    rw [List.map_cons, intsT_of rs]
/-- what Chance(terms, parts) answers, by what its __init__ does: tif the test, te1 the terms, te2 the parts -/
def InitOk (tif : DS) (te1 te2 : DT) (S : Spec) : Prop := ∀ (x : Addr) (ds : List D) (P : D → Prop) (Ex : Str → Prop), S ds P Ex → ∃ dt db, ds = [dt, db] ∧
  tif [.fz (.adr x), .fz dt, .fz db] ⟨fun ρ => ρ = [.fz (.adr x), .fz dt, .fz db] ∧ te1 ρ (fun d1 => te2 ρ (fun d2 => ∃ tp bt, d1 = termsD tp ∧ d2 = partsD bt ∧ P (.ch tp bt)) Ex) Ex, fun _ => False, fun _ => False, fun _ => False, fun _ c => Ex c⟩
def spInit (K : PySem.W.Frag) (S : Spec) : Sp := fun vs H Q E => ∃ (gb : Gh) (x dx : Addr) (us : List V) (ds : List D) (P : D → Prop) (Ex : Str → Prop), vs = .ref x :: us ∧ us.length = 2 ∧ dx ≠ x ∧ gb.H x = none ∧ gb.H dx = none ∧ Hold gb ∧
  H = upd (upd gb.H dx (.own x)) x (.ins (He.ga K "Chance") dx []) ∧ Reps K gb us ds ∧ S ds P Ex ∧ (∀ d, P d → ∀ g', Step gb g' → Rep K g' (.ref x) d → Q .non g'.H) ∧ (∀ c, Ex c → ∀ g', Step gb g' → E (.ref (He.ga K c)) none g'.H)
abbrev exE (K : PySem.W.Frag) (W : WX) (t : DT) : TE := fun σ H Q => ∃ gb, lift K W gb t σ H Q
abbrev tInit (K : PySem.W.Frag) (W : WX) (tif : DS) (te1 te2 : DT) : TS := L2.tSeq (fun E σ H => ∃ gb, liftS K W gb tif E σ H) (L2.tSeq (sFld K (tVar 0) (exE K W te1) "top") (sFld K (tVar 0) (exE K W te2) "bottom"))
theorem env3 {K : PySem.W.Frag} {gA gB g g' : Gh} {a b c : D} {σ : L2.St} (e : EnvOk K gA g [.fz a, .fz b, .fz c] σ) (hg : ∀ b o, g.G b = some o → g'.G b = some o) (hm : ∀ b ∈ g.M, b ∈ g'.M) : EnvOk K gB g' [.fz a, .fz b, .fz c] σ := by
  have no : ∀ (i : Nat) (d : D), ([.fz a, .fz b, .fz c] : Rho)[i]? ≠ some (.ow d) := fun i d h => by
    match i with
    | 0 => cases h
    | 1 => cases h
    | 2 => cases h
    | i + 3 => simp at h
  exact ⟨e.len, fun i d h => let ⟨v, h1, h2⟩ := e.fz i d h; ⟨v, h1, h2.up hg hm⟩, fun i d h => (no i d h).elim, fun i _ d _ _ _ h => (no i d h).elim⟩
theorem init_sound {X : Cx} {W : WX} {gb g : Gh} {x dx : Addr} {σ : L2.St} {E : Ends} {tif : DS} {te1 te2 : DT} {dt db : D} {P : D → Prop} {Ex : Str → Prop} (T : ChK X.K X.mg) (m : Making X.K gb g x dx []) (e : EnvOk X.K g g [.fz (.adr x), .fz dt, .fz db] σ)
    (w : tif [.fz (.adr x), .fz dt, .fz db] ⟨fun ρ => ρ = [.fz (.adr x), .fz dt, .fz db] ∧ te1 ρ (fun d1 => te2 ρ (fun d2 => ∃ tp bt, d1 = termsD tp ∧ d2 = partsD bt ∧ P (.ch tp bt)) Ex) Ex, fun _ => False, fun _ => False, fun _ => False, fun _ c => Ex c⟩)
    (q : ∀ d, P d → ∀ σ' g', Step gb g' → Rep X.K g' (.ref x) d → E.nx σ' g'.H) (xx : ∀ c, Ex c → ∀ σ' g', Step gb g' → W (.ref (He.ga X.K c)) none σ' g'.H) : tInit X.K W tif te1 te2 E σ g.H := by
  have s0 := Step.refl m.st.ok
  refine ⟨g, g, _, _, rfl, s0, e, w, ⟨fun ρ1 σ1 g1 s1 e1 h1 => ?_, fun _ _ _ _ _ z => z.elim, fun _ _ _ _ _ z => z.elim, fun _ _ _ _ _ z => z.elim, fun _ c σ1 g1 s1 _ z => xx c z σ1 g1 (m.st.trans s1)⟩⟩
  obtain ⟨rfl, h1⟩ := h1
  have m1 := m.step s1
  have v0 : ∀ {gA g2 : Gh} {σ2 : L2.St}, EnvOk X.K gA g2 [.fz (.adr x), .fz dt, .fz db] σ2 → σ2[0]? = some (some (.ref x)) := fun e2 => by
    obtain ⟨v, hv, r⟩ := e2.fz 0 _ rfl
    cases r
    exact hv
  refine ⟨g, g1, _, _, Ex, rfl, s1, e1, h1, fun d1 hd1 v1 g2 s2 r1 => ?_, fun c z g' s' => xx c z _ g' (m1.st.trans s')⟩
  have e2 := e1.step s2
  have m2 := m1.step s2
  refine ⟨_, v0 e2, x, _, dx, _, rfl, m2.at_, T.cl, T.nt, by show 0 < 1000; decide, ?_⟩
  have m3 : Making X.K gb (g2.own x (.ins (He.ga X.K "Chance") dx (putF "top" v1 []))) x dx (putF "top" v1 []) := m2.put
  have e3 : EnvOk X.K (g2.own x (.ins (He.ga X.K "Chance") dx (putF "top" v1 []))) (g2.own x (.ins (He.ga X.K "Chance") dx (putF "top" v1 []))) [.fz (.adr x), .fz dt, .fz db] σ1 := env3 (g' := g2.own x _) e2 (fun _ _ h => h) (fun _ h => h)
  have r3 : Rep X.K (g2.own x (.ins (He.ga X.K "Chance") dx (putF "top" v1 []))) v1 d1 := Rep.up (g := g2) (g' := g2.own x _) (fun _ _ h => h) (fun _ h => h) r1
  refine ⟨_, g2.own x (.ins (He.ga X.K "Chance") dx (putF "top" v1 [])), _, _, Ex, rfl, Step.refl m3.st.ok, e3, hd1, fun d2 hd2 v2 g4 s4 r2 => ?_, fun c z g' s' => xx c z _ g' (m3.st.trans s')⟩
  have e4 := e3.step s4
  have m4 := m3.step s4
  have r4 := r3.step s4
  obtain ⟨tp, bt, rfl, rfl, hP⟩ := hd2
  refine ⟨_, v0 e4, x, _, dx, _, rfl, m4.at_, T.cl, T.nb, by show 1 < 1000; decide, ?_⟩
  cases r4 with
  | @dT t kvs ds ht rs =>
    cases r2 with
    | @tup b vs ds hb rb =>
      have z1 := intsT_of rs
      have z2 := ints_of_reps rb
      subst z1 z2
      have m5 : Making X.K gb (g4.own x (.ins (He.ga X.K "Chance") dx (chF t b))) x dx (chF t b) := m4.put
      obtain ⟨g6, eh, s6, r6⟩ := m5.done (tp := tp) (bt := bt) ht hb
      have z := q _ hP σ1 g6 s6 r6
      rw [eh] at z
      exact z
theorem pss_exS {X : Cx} {W : WX} {st : Stmt} {t : DS} (h : ∀ g0, DP X W g0 st t) : PS X st (fun E σ H => ∃ gb, liftS X.K W gb t E σ H) := ⟨fun pins s σ H E I ⟨gb, w⟩ => (h gb).run pins s σ H E I w⟩
theorem pe_exE {X : Cx} {W : WX} {e : Expr} {t : DT} (h : ∀ g0, DE X W g0 e t) : PE X e (exE X.K W t) := ⟨fun pins s σ H Q I ⟨gb, w⟩ => (h gb).run pins s σ H Q I w⟩
abbrev nInit : List Str := ["self", "terms", "parts"]
theorem init_fn {P : Program} {w : World} {K : PySem.W.Frag} {mg : Str → Option Value} {base : Heap} {x qual : Str} {params : Arguments} {body : List Stmt} {scope : Scope} {f : Addr} {fd : FuncData} {k : Nat} {S : Spec} {tif : DS} {te1 te2 : DT}
    (F : FunD K x qual params body scope [] [] f fd) (Sc : FnScope nInit nInit scope) (T : ChK K mg)
    (hbody : ∀ (cdv : Value) (A : Around) (outer : List PySem.Env) (s : Shared) (H : Hp) (E : XK), Cn (cxD P w K mg base nInit qual scope f cdv A outer s H E) (wxD E) k → PSs (cxD P w K mg base nInit qual scope f cdv A outer s H E) body (tInit K (wxD E) tif te1 te2))
    (spec : InitOk tif te1 te2 S) : FnOk P w K mg base (L2.CX P w) (k + 1) f fd nInit (spInit K S) := by
  refine F.ok Sc (fun vs H Q E h => ?_) (fun cdv A outer s H vs Q E hr h => ?_)
  · obtain ⟨gb, x, dx, us, ds, Pd, Ex, rfl, hl, _⟩ := h
    rw [List.length_cons, hl]
    rfl
  · obtain ⟨gb, x, dx, us, ds, Pd, Ex, rfl, hl, ne, hx, hdx, hg, rfl, rs, h, q, xx⟩ := h
    obtain ⟨dt, db, rfl, hw⟩ := spec x ds Pd Ex h
    obtain ⟨u1, us, rfl⟩ : ∃ u r, us = u :: r := by
      cases us with
      | nil => cases hl
      | cons u r => exact ⟨u, r, rfl⟩
    obtain ⟨u2, rfl⟩ : ∃ u, us = [u] := by
      cases us with
      | nil => cases hl
      | cons u r => cases r with
        | nil => exact ⟨u, rfl⟩
        | cons _ _ => simp at hl
    have s1 := hg.own (.own x) hdx
    have hx1 : (gb.own dx (.own x)).H x = none := by
      show upd gb.H dx _ x = none
      rw [upd_ne (Ne.symm ne)]; exact hx
    have s2 := s1.ok.own (.ins (He.ga K "Chance") dx []) hx1
    have m : Making K gb ((gb.own dx (.own x)).own x (.ins (He.ga K "Chance") dx [])) x dx [] := ⟨s1.trans s2, hx, hg.free hx, hg.notM hx, upd_same⟩
    have C : Cn (cxD P w K mg base nInit qual scope f cdv A outer s (upd (upd gb.H dx (.own x)) x (.ins (He.ga K "Chance") dx [])) E) (wxD E) k :=
      ⟨takes_of (X := cxD P w K mg base nInit qual scope f cdv A outer s (upd (upd gb.H dx (.own x)) x (.ins (He.ga K "Chance") dx [])) E) rfl rfl rfl rfl, passes_of (X := cxD P w K mg base nInit qual scope f cdv A outer s (upd (upd gb.H dx (.own x)) x (.ins (He.ga K "Chance") dx [])) E) rfl, hr, rfl, Sc.nd⟩
    refine ⟨_, hbody cdv A outer s _ E C, ?_⟩
    have rs2 := (rs.step s1).step s2
    have e : EnvOk K ((gb.own dx (.own x)).own x (.ins (He.ga K "Chance") dx [])) ((gb.own dx (.own x)).own x (.ins (He.ga K "Chance") dx [])) (startD nInit.length [.adr x, dt, db]) (L2.start nInit [.ref x, u1, u2]) := reps_start (.cons (.adr x) rs2)
    exact init_sound (X := cxD P w K mg base nInit qual scope f cdv A outer s (upd (upd gb.H dx (.own x)) x (.ins (He.ga K "Chance") dx [])) E) T m e hw (fun d hd σ' g' s' r => q d hd g' s' r) (fun c hc σ' g' s' => xx c hc g' s')
/-- C(a, b), whatever its __init__ may raise -/
theorem run_makeAt {X : Cx} {C f : Addr} {fd : FuncData} {ps : List Str} {sp : Sp} {k : Nat} {E : XK} {pins : List (Addr × Obj)} {σ : L2.St} {H : Hp} {s : Shared} {Q : VK} {us : List Value} {vs : List V} (M : Mk X.K C f) (F : FnOk X.prog X.w X.K X.mg X.base (L2.CX X.prog X.w) k f fd ps sp)
    (hr : Room (k + 1) X.A) (hb : Binds X.K fd ps []) (hx : PassesAt (L2.CX X.prog X.w) X σ E) (I : Inv X pins σ H s) (r : Vals vs us)
    (h : ∀ x dx, H x = none → H dx = none → dx ≠ x → sp (.ref x :: vs) (upd (upd H dx (.own x)) x (.ins C dx [])) (fun v H2 => v = .non ∧ Q (.ref x) H2) E) : wpAny (model X.prog X.w) X.A (call (.ref C) us) (EP X pins σ Q) X.xe s := by
  have hq := h (s.heap.objs.size + 1) s.heap.objs.size (I.hok.fresh (Nat.le_succ _)) (I.hok.fresh (Nat.le_refl _)) (Nat.ne_of_lt (Nat.lt_succ_self _))
  have I2 := Inv.made (C := C) I
  have r2 : Vals (V.ref (s.heap.objs.size + 1) :: vs) (Value.ref (s.heap.objs.size + 1) :: us) := .cons rfl r
  have hl : (Value.ref (s.heap.objs.size + 1) :: us).length = ps.length := r2.length.symm.trans (F.len _ _ _ _ hq)
  have b := hb _ (Value.ref (s.heap.objs.size + 1) :: us) I2.kIn (by rw [List.append_nil]; exact hl)
  rw [List.append_nil] at b
  refine wpAny_call (make_map (f := f) I.kIn M.makes M.init (beq_iff_eq.mp M.fn) (codeAny_mono (F.run _ X.stack _ _ ⟨Value.ref (s.heap.objs.size + 1) :: us, []⟩ _ _ _ E (hr.make C us []) (I2.env0.make C us []) b r2 hq) fun r s' hq' => ?_))
  cases r with
  | error e => exact hx pins _ _ e s' I2 hq'
  | ok fl =>
    cases fl with
    | ret u =>
      obtain ⟨v, H', I3, rv, ev, q3⟩ := I2.after hq'
      subst ev
      exact ⟨rv, ⟨V.ref (s.heap.objs.size + 1), H', I3, rfl, q3⟩⟩
    | _ => exact False.elim hq'
section
variable {X : Cx} {W : WX} {g0 : Gh} {k j : Nat} {S : Spec} {f : Addr} {fd : FuncData} {e : Expr} {es : List Expr} {ts : DA} {p pos : Pos}
theorem de_chance (C : Cn X W k) (T : ChK X.K X.mg) (F : FnOk X.prog X.w X.K X.mg X.base (L2.CX X.prog X.w) j (He.ma X.K (He.ga X.K "Chance") "__init__") fd nInit (spInit X.K S)) (hb : Binds X.K fd nInit []) (hj : j + 1 ≤ k) (ha : DPA X W g0 (e :: es) ts) (len : ∀ ds P Ex, S ds P Ex → ds.length = 2) (hg : Gl X "Chance" := by rfl)
    (he : starEach (e :: es) X.env = (false, eval e X.env) :: starEach es X.env := by rfl) (hpl : (backTo pos (starEach es X.env)).any (·.1) = false := by rfl) : DE X W g0 (.Call (.Name "Chance" p) (e :: es) [] pos) (dCall S ts) := by
  refine ⟨fun pins s σ H Q I h => ?_⟩
  obtain ⟨g, ρ, P, Ex, rfl, s0, en, w, q, x⟩ := h
  refine wpAny_Call_Name_kw (ld_glob I hg T.gl ?_ (by decide))
  refine PySem.W.callWith_K (h₀ := X.base) I.ok.mod.kin T.mkr.kp (thn (ha.run pos pins s σ g.H (fun vs H1 => ∃ ds g1, g1.H = H1 ∧ Step g g1 ∧ Reps X.K g1 vs ds ∧ S ds P Ex) I ⟨g, ρ, _, Ex, rfl, s0, en, w, fun ds hd vs g1 s1 r1 => ⟨ds, g1, rfl, s1, r1, hd⟩, x⟩) fun us s1 hh => ?_) he hpl
  obtain ⟨vs, H1, I1, r1, ds, g1, rfl, s1', rs, hd⟩ := hh
  refine ⟨I1.kIn, run_makeAt (E := WE W σ) T.mkr F (C.hr.mono hj) hb (passAt C.tk σ) I1 r1 fun y dx hy hdx ne => ?_⟩
  exact ⟨g1, y, dx, vs, ds, P, Ex, rfl, rs.length.trans (len _ _ _ hd), ne, hy, hdx, s1'.ok, rfl, rs, hd, fun d hd g' s' r => ⟨rfl, q d hd _ g' (s1'.trans s') r⟩, fun c hc g' s' => x c hc g' (s1'.trans s')⟩
end

/-! ### methods of chances -/
@[simp] def dMeth (S : Spec) (to : DT) (ts : DA) : DT := fun ρ P Ex => to ρ (fun d => isCh d = true ∧ ts ρ (fun ds => S (d :: ds) P Ex) Ex) Ex
theorem chF_no {t b : Addr} {m : Str} (h1 : ¬ m = "bottom") (h2 : ¬ m = "top") : (chF t b).lookup m = none := by
  unfold chF
  rw [lookup_putF, if_neg h1, lookup_putF, if_neg h2]
  rfl
section
variable {X : Cx} {W : WX} {g0 : Gh} {k j : Nat} {S : Spec} {f : Addr} {fd : FuncData} {ps : List Str} {o e : Expr} {es : List Expr} {to : DT} {ts : DA} {m : Str} {apos pos : Pos}
theorem de_meth {pl : Sem Bool} (C : Cn X W k) (T : ChK X.K X.mg) (hm : Meth X.K (He.ga X.K "Chance") m f) (F : FnOk X.prog X.w X.K X.mg X.base (L2.CX X.prog X.w) j f fd ps (spD X.K S)) (hj : j ≤ k) (hb : Binds X.K fd ps []) (ho : DE X W g0 o to) (ha : DPA X W g0 (e :: es) ts)
    (h1 : ¬ m = "bottom" := by decide +kernel) (h2 : ¬ m = "top" := by decide +kernel) (hst : starEach (e :: es) X.env = (false, eval e X.env) :: starEach es X.env := by rfl) (hpl : (backTo pos (starEach es X.env)).any (·.1) = false := by rfl)
    (ht : eval (.Call (.Attribute o m apos) (e :: es) [] pos) X.env = (do
      let ov ← eval o X.env
      standAt apos.atName
      let (g, first) ← holding [ov] (getMethod ov m pl)
      callWith pos g first (backTo pos (starEach (e :: es) X.env)) (backToKw pos (keywordEach [] X.env))) := by rfl) : DE X W g0 (.Call (.Attribute o m apos) (e :: es) [] pos) (dMeth S to ts) := by
  refine ⟨fun pins s σ H Q I h => ?_⟩
  obtain ⟨g, ρ, P, Ex, rfl, s0, en, w, q, x⟩ := h
  refine PySem.W.methodCall_KW (pl := pl) (thn (ho.run pins s σ g.H (fun v H1 => ∃ d g1, g1.H = H1 ∧ Step g g1 ∧ Rep X.K g1 v d ∧ isCh d = true ∧ ts ρ (fun ds => S (d :: ds) P Ex) Ex) I ⟨g, ρ, _, Ex, rfl, s0, en, w, fun d hd v g1 s1 r1 => ⟨d, g1, rfl, s1, r1, hd.1, hd.2⟩, x⟩) fun u s1 hh => ?_) ht
  obtain ⟨v, H1, I1, rx, d, g1, rfl, s1', rd, hc, hw⟩ := hh
  cases rd with
  | ch ga gt gb =>
    cases (show u = Value.ref _ from rx)
    refine getmeth_ok I1 (s1'.ok.ins ga) T.cl hm (chF_no h1 h2) ?_
    refine PySem.W.callWith_K (first := [.ref _]) (h₀ := X.base) I.ok.mod.kin hm.kp (thn (ha.run pos pins s1 σ g1.H (fun vs H2 => ∃ ds g2, g2.H = H2 ∧ Step g1 g2 ∧ Reps X.K g2 vs ds ∧ S (_ :: ds) P Ex) I1 ⟨g1, ρ, _, Ex, rfl, s0.trans s1', en.step s1', hw, fun ds hd vs g2 s2 r2 => ⟨ds, g2, rfl, s2, r2, hd⟩, x.step s1'⟩) fun us s2 hh => ?_) hst hpl
    obtain ⟨vs, H2, I2, r2, ds, g2, rfl, s2', rs, hd⟩ := hh
    refine ⟨I2.kIn, run_fnS (us := .ref _ :: us) (vs := .ref _ :: vs) (E := WE W) F (C.hr.mono hj) hb (passAt C.tk σ) I2 (.cons rfl r2) ?_⟩
    exact ⟨g2, _ :: ds, P, Ex, rfl, s2'.ok, .cons ((Rep.ch ga gt gb).step s2') rs, hd, fun d hd v g3 s3 r3 => q d hd v g3 (s1'.trans (s2'.trans s3)) r3, fun c hc g3 s3 => x c hc g3 (s1'.trans (s2'.trans s3))⟩
  | _ => cases hc
theorem de_meth0 {pl : Sem Bool} (C : Cn X W k) (T : ChK X.K X.mg) (hm : Meth X.K (He.ga X.K "Chance") m f) (F : FnOk X.prog X.w X.K X.mg X.base (L2.CX X.prog X.w) j f fd ps (spD X.K S)) (hj : j ≤ k) (hb : Binds X.K fd ps []) (ho : DE X W g0 o to)
    (h1 : ¬ m = "bottom" := by decide +kernel) (h2 : ¬ m = "top" := by decide +kernel)
    (ht : eval (.Call (.Attribute o m apos) [] [] pos) X.env = (do
      let ov ← eval o X.env
      standAt apos.atName
      let (g, first) ← holding [ov] (getMethod ov m pl)
      callWith pos g first (backTo pos (starEach [] X.env)) (backToKw pos (keywordEach [] X.env))) := by rfl) : DE X W g0 (.Call (.Attribute o m apos) [] [] pos) (dMeth S to dNil) := by
  refine ⟨fun pins s σ H Q I h => ?_⟩
  obtain ⟨g, ρ, P, Ex, rfl, s0, en, w, q, x⟩ := h
  refine PySem.W.methodCall_KW (pl := pl) (thn (ho.run pins s σ g.H (fun v H1 => ∃ d g1, g1.H = H1 ∧ Step g g1 ∧ Rep X.K g1 v d ∧ isCh d = true ∧ S [d] P Ex) I ⟨g, ρ, _, Ex, rfl, s0, en, w, fun d hd v g1 s1 r1 => ⟨d, g1, rfl, s1, r1, hd.1, hd.2⟩, x⟩) fun u s1 hh => ?_) ht
  obtain ⟨v, H1, I1, rx, d, g1, rfl, s1', rd, hc, hw⟩ := hh
  cases rd with
  | ch ga gt gb =>
    cases (show u = Value.ref _ from rx)
    refine getmeth_ok I1 (s1'.ok.ins ga) T.cl hm (chF_no h1 h2) ?_
    refine PySem.W.callWith_K0 (first := [.ref _]) I1.kIn hm.kp (run_fnS (us := [.ref _]) (vs := [.ref _]) (E := WE W) F (C.hr.mono hj) hb (passAt C.tk σ) I1 (.cons rfl .nil) ?_)
    exact ⟨g1, [_], P, Ex, rfl, s1'.ok, .cons (.ch ga gt gb) .nil, hw, fun d hd v g3 s3 r3 => q d hd v g3 (s1'.trans s3) r3, fun c hc g3 s3 => x c hc g3 (s1'.trans s3)⟩
  | _ => cases hc
end
end AU

/-! AuKeys: loops over dicts. -/
namespace AU
open PySem L2 PySem.Spec PyProof.Rows
/-- the base while the dict at d is locked; the state -/
abbrev Gh.lk (g0 g : Gh) (d : Addr) (f : HO) : Gh := ⟨g.G, g.M, upd g0.H d f⟩
section
variable {K : PySem.W.Frag} {g0 g g3 : Gh} {d : Addr} {od : Obj} {u : HO}
theorem lock_step (s0 : Step g0 g) (hG : g.G d = some u) (hu : isD u) : Step (g0.lk g d (.frz od u)) (g.own d (.frz od u)) := by
  have nM : ∀ a ∈ g.M, a ≠ d := fun a h z => by
    have := s0.ok.dis a h
    rw [z, hG] at this; cases this
  refine ⟨fun _ _ h => h, fun _ _ h => .inl h, fun _ h => h, fun _ h => .inl h, fun a o h hm => ?_, ⟨fun a o h => ?_, s0.ok.dis, fun a hm => ?_⟩⟩
  · by_cases ha : a = d
    · subst ha
      have h' : upd g0.H a (.frz od u) a = some o := h
      rw [upd_same] at h'
      cases h'
      exact upd_same
    · have h' : upd g0.H d (.frz od u) a = some o := h
      rw [upd_ne ha] at h'
      show upd g.H d _ a = some o
      rw [upd_ne ha]
      refine s0.hs a o h' fun z => hm (s0.ms a z)
  · by_cases ha : a = d
    · subst ha
      rw [hG] at h
      cases h
      exact .inr ⟨hu, od, upd_same⟩
    · rcases s0.ok.le a o h with q | ⟨q, ob, q2⟩
      · left; show upd g.H d _ a = _; rw [upd_ne ha]; exact q
      · right; refine ⟨q, ob, ?_⟩; show upd g.H d _ a = _; rw [upd_ne ha]; exact q2
  · obtain ⟨l, ns, j, c, st, h1, h2⟩ := s0.ok.mok a hm
    refine ⟨l, ns, j, c, st, ?_, h2⟩
    show upd g.H d _ a = _
    rw [upd_ne (nM a hm)]; exact h1
theorem lock_env {ρ : Rho} {σ : L2.St} (e : EnvOk K g0 g ρ σ) (hG : g.G d = some u) : EnvOk K (g0.lk g d (.frz od u)) (g.own d (.frz od u)) ρ σ := by
  refine ⟨e.len, fun i x h => let ⟨v, a, b⟩ := e.fz i x h; ⟨v, a, Rep.up (g := g) (g' := g.own d _) (fun _ _ h => h) (fun _ h => h) b⟩, fun i x h => ?_, e.ap⟩
  obtain ⟨p, a, o⟩ := e.ow i x h
  have np : p ≠ d := fun z => by
    have := o.ng
    rw [z, hG] at this; cases this
  refine ⟨p, a, by show upd g0.H d _ p = none; rw [upd_ne np]; exact o.n0, o.ng, o.nm, ?_⟩
  have at_ := o.at_
  have hp : ∀ w, g.H p = some w → upd g.H d (.frz od u) p = some w := fun w hw => by rw [upd_ne np]; exact hw
  cases x with
  | lst ds => obtain ⟨vs, z, r⟩ := at_; exact ⟨vs, hp _ z, Reps.up (g := g) (g' := g.own d _) (fun _ _ h => h) (fun _ h => h) r⟩
  | dS ds => obtain ⟨vs, z, r⟩ := at_; exact ⟨vs, hp _ z, RepK.up (g := g) (g' := g.own d _) (fun _ _ h => h) (fun _ h => h) r⟩
  | dT ds => obtain ⟨vs, z, r⟩ := at_; exact ⟨vs, hp _ z, RepT.up (g := g) (g' := g.own d _) (fun _ _ h => h) (fun _ h => h) r⟩
  | _ => exact at_.elim
/-- unlocked again -/
theorem unlock_step (s0 : Step g0 g) (hG : g.G d = some u) (hH : g.H d = some u) (s : Step (g0.lk g d (.frz od u)) g3) : g3.H d = some (.frz od u) ∧ Step g0 (g3.own d u) := by
  have dM : d ∉ g.M := fun h => by
    have := s0.ok.dis d h
    rw [hG] at this; cases this
  have hd : g3.H d = some (.frz od u) := s.hs d _ upd_same dM
  have hG3 : g3.G d = some u := s.gs d u hG
  have dM3 : d ∉ g3.M := fun h => by
    have := s.ok.dis d h
    rw [hG3] at this; cases this
  refine ⟨hd, ⟨fun a o h => s.gs a o (s0.gs a o h), fun a o h => ?_, fun a h => s.ms a (s0.ms a h), fun a h => ?_, fun a o h hm => ?_, ⟨fun a o h => ?_, s.ok.dis, fun a hm => ?_⟩⟩⟩
  · rcases s.gn a o h with q | q | q
    · exact s0.gn a o q
    · have q' : upd g0.H d (.frz od u) a = none := q
      by_cases ha : a = d
      · rw [ha, upd_same] at q'; cases q'
      · rw [upd_ne ha] at q'; exact .inr (.inl q')
    · exact .inr (.inr q)
  · rcases s.mn a h with q | q
    · exact s0.mn a q
    · have q' : upd g0.H d (.frz od u) a = none := q
      by_cases ha : a = d
      · rw [ha, upd_same] at q'; cases q'
      · rw [upd_ne ha] at q'; exact .inr q'
  · have hm' : a ∉ g.M := fun z => by
      rcases s0.mn a z with q | q
      · exact hm q
      · rw [h] at q; cases q
    by_cases ha : a = d
    · subst ha
      have := s0.hs a o h hm
      rw [hH] at this
      cases this
      exact upd_same
    · show upd g3.H d u a = some o
      rw [upd_ne ha]
      exact s.hs a o (by show upd g0.H d _ a = some o; rw [upd_ne ha]; exact h) hm'
  · by_cases ha : a = d
    · subst ha
      have h' : g3.G a = some o := h
      rw [hG3] at h'
      cases h'
      exact .inl upd_same
    · rcases s.ok.le a o h with q | ⟨q, ob, q2⟩
      · left; show upd g3.H d _ a = _; rw [upd_ne ha]; exact q
      · right; refine ⟨q, ob, ?_⟩; show upd g3.H d _ a = _; rw [upd_ne ha]; exact q2
  · obtain ⟨l, ns, j, c, st, h1, h2⟩ := s.ok.mok a hm
    refine ⟨l, ns, j, c, st, ?_, h2⟩
    show upd g3.H d _ a = _
    rw [upd_ne (show a ≠ d from fun z => dM3 (z ▸ hm))]; exact h1
theorem unlock_env {ρ : Rho} {σ : L2.St} (hG3 : g3.G d = some u) (e : EnvOk K (g0.lk g d (.frz od u)) g3 ρ σ) : EnvOk K g0 (g3.own d u) ρ σ := by
  refine ⟨e.len, fun i x h => let ⟨v, a, b⟩ := e.fz i x h; ⟨v, a, Rep.up (g := g3) (g' := g3.own d _) (fun _ _ h => h) (fun _ h => h) b⟩, fun i x h => ?_, e.ap⟩
  obtain ⟨p, a, o⟩ := e.ow i x h
  have np : p ≠ d := fun z => by
    have := o.ng
    rw [z, hG3] at this; cases this
  have n0 : upd g0.H d (.frz od u) p = none := o.n0
  rw [upd_ne np] at n0
  refine ⟨p, a, n0, o.ng, o.nm, ?_⟩
  have at_ := o.at_
  have hp : ∀ w, g3.H p = some w → upd g3.H d u p = some w := fun w hw => by rw [upd_ne np]; exact hw
  cases x with
  | lst ds => obtain ⟨vs, z, r⟩ := at_; exact ⟨vs, hp _ z, Reps.up (g := g3) (g' := g3.own d _) (fun _ _ h => h) (fun _ h => h) r⟩
  | dS ds => obtain ⟨vs, z, r⟩ := at_; exact ⟨vs, hp _ z, RepK.up (g := g3) (g' := g3.own d _) (fun _ _ h => h) (fun _ h => h) r⟩
  | dT ds => obtain ⟨vs, z, r⟩ := at_; exact ⟨vs, hp _ z, RepT.up (g := g3) (g' := g3.own d _) (fun _ _ h => h) (fun _ h => h) r⟩
  | _ => exact at_.elim
end
/-! what is yielded -/
@[simp] def keyS (kvs : List (Str × D)) : List D := kvs.map fun q => .str q.1
@[simp] def keyT (kvs : List (List Int × D)) : List D := kvs.map fun q => .tup (q.1.map D.int)
theorem RepK.key {K : PySem.W.Frag} {g : Gh} : ∀ {vs : List (Key × V)} {kvs : List (Str × D)} {i : Nat}, RepK K g vs kvs → ∀ {k : Key} {v : V}, vs[i]? = some (k, v) → ∃ x dd, kvs[i]? = some (x, dd) ∧ k = Sum.inr x
  | _, _, _, .nil, _, _, h => by simp at h
  | _, _, 0, .cons r rs, _, _, h => by simp at h; obtain ⟨rfl, rfl⟩ := h; exact ⟨_, _, rfl, rfl⟩
  | _, _, i + 1, .cons r rs, k, v, h => by
    obtain ⟨x, dd, a, b⟩ := RepK.key (i := i) rs (k := k) (v := v) (by simpa using h)
    exact ⟨x, dd, by simpa using a, b⟩
theorem RepT.key {K : PySem.W.Frag} {g : Gh} : ∀ {vs : List (List Key × V)} {kvs : List (List Int × D)} {i : Nat}, RepT K g vs kvs → ∀ {k : List Key} {v : V}, vs[i]? = some (k, v) → ∃ x dd, kvs[i]? = some (x, dd) ∧ k = kI x
  | _, _, _, .nil, _, _, h => by simp at h
  | _, _, 0, .cons r rs, _, _, h => by simp at h; obtain ⟨rfl, rfl⟩ := h; exact ⟨_, _, rfl, rfl⟩
  | _, _, i + 1, .cons r rs, k, v, h => by
    obtain ⟨x, dd, a, b⟩ := RepT.key (i := i) rs (k := k) (v := v) (by simpa using h)
    exact ⟨x, dd, by simpa using a, b⟩
theorem yields_keyS {K : PySem.W.Frag} {gb : Gh} {d : Addr} {od : Obj} {vs : List (Key × V)} {kvs : List (Str × D)} (hd : gb.H d = some (.frz od (.dK vs))) (hm : d ∉ gb.M) (r : RepK K gb vs kvs) : Yields K (Itk d od vs) gb (keyS kvs) := fun g s i => by
  have h := s.hs d _ hd hm
  have hl := r.length
  refine ⟨fun x hx => ?_, fun hi => ⟨h, by rw [hl]; simpa using hi⟩⟩
  have hi : i < kvs.length := by
    have := (List.getElem?_eq_some_iff.mp hx).1
    simpa using this
  refine ⟨⟨h, by rw [hl]; exact hi⟩, fun v H' hy => ?_⟩
  obtain ⟨rfl, k, w, e1, rfl⟩ := hy
  obtain ⟨z, dd, e2, rfl⟩ := r.key e1
  rw [keyS, List.getElem?_map, e2] at hx
  have ex : D.str z = x := Option.some.inj hx
  subst ex
  exact ⟨g, rfl, Step.refl s.ok, .str z⟩
/-- a tuple that stands is frozen: it never changes -/
theorem freeze_tup {K : PySem.W.Frag} {g : Gh} (h : Hold g) {q : Addr} {xs : List V} (hq : g.H q = some (.tup xs)) : ∃ g', g'.H = g.H ∧ Step g g' ∧ g'.G q = some (.tup xs) := by
  by_cases e : g.G q = none
  · have hm : q ∉ g.M := fun z => by
      obtain ⟨l, ns, i, c, st, h1, _⟩ := h.mok q z
      rw [hq] at h1; cases h1
    refine ⟨⟨upd g.G q (.tup xs), g.M, g.H⟩, rfl, ⟨fun a o ha => ?_, fun a o ha => ?_, fun _ z => z, fun _ z => .inl z, fun _ _ z _ => z, ⟨fun a o ha => ?_, fun a ha => ?_, fun a ha => ?_⟩⟩, upd_same⟩
    · show upd g.G q _ a = some o
      rw [upd_ne (ne_of_none ha e)]; exact ha
    · have ha' : upd g.G q (.tup xs) a = some o := ha
      by_cases hb : a = q
      · subst hb; rw [upd_same] at ha'; cases ha'; exact .inr (.inr trivial)
      · rw [upd_ne hb] at ha'; exact .inl ha'
    · have ha' : upd g.G q (.tup xs) a = some o := ha
      by_cases hb : a = q
      · subst hb; rw [upd_same] at ha'; cases ha'; exact .inl hq
      · rw [upd_ne hb] at ha'; exact h.le a o ha'
    · show upd g.G q _ a = none
      rw [upd_ne (show a ≠ q from fun z => hm (z ▸ ha))]; exact h.dis a ha
    · obtain ⟨l, ns, i, c, st, h1, h2, h3⟩ := h.mok a ha
      refine ⟨l, ns, i, c, st, h1, ?_, h3⟩
      show upd g.G q _ l = _
      rw [upd_ne (ne_of_none h2 e)]; exact h2
  · cases e2 : g.G q with
    | none => exact absurd e2 e
    | some o =>
      rcases h.le q o e2 with z | ⟨_, _, z⟩
      · rw [hq] at z; cases z; exact ⟨g, rfl, Step.refl h, e2⟩
      · rw [hq] at z; cases z
theorem kV_kI : ∀ ks : List Int, (kI ks).map kV = ks.map V.int
  | [] => rfl
  | k :: ks => by
    show kV (Sum.inl k) :: (kI ks).map kV = _
    rw [kV_kI ks]; rfl
theorem yields_keyT {K : PySem.W.Frag} {gb : Gh} {d : Addr} {od : Obj} {vs : List (List Key × V)} {kvs : List (List Int × D)} (hd : gb.H d = some (.frz od (.dT vs))) (hm : d ∉ gb.M) (r : RepT K gb vs kvs) : Yields K (Itkt d od vs) gb (keyT kvs) := fun g s i => by
  have h := s.hs d _ hd hm
  have hl := r.length
  refine ⟨fun x hx => ?_, fun hi => ⟨h, by rw [hl]; simpa using hi⟩⟩
  have hi : i < kvs.length := by
    have := (List.getElem?_eq_some_iff.mp hx).1
    simpa using this
  refine ⟨⟨h, by rw [hl]; exact hi⟩, fun v H' hy => ?_⟩
  obtain ⟨rfl, k, w, q, e1, rfl, hq⟩ := hy
  obtain ⟨z, dd, e2, rfl⟩ := r.key e1
  rw [keyT, List.getElem?_map, e2] at hx
  have ex : D.tup (z.map D.int) = x := Option.some.inj hx
  subst ex
  obtain ⟨g', eh, s', hG⟩ := freeze_tup (K := K) s.ok hq
  rw [kV_kI] at hG
  exact ⟨g', eh, s', .tup (TpAt.of (K := K) hG) (reps_ints z)⟩
/-- the keys of a dict -/
@[simp] def keysD (P : List D → Prop) : D → Prop
  | .dS kvs => P (keyS kvs)
  | .dT kvs => P (keyT kvs)
  | _ => False
/-- for target in x, x a dict: the body raises nothing -/
@[simp] def dForD (i : Nat) (gt : DG) (b : DS) : DS := fun ρ k => match ρ[i]? with
  | some (.fz x) => keysD (fun ds => forN gt b ds ρ { k with ex := fun _ _ => False }) x
  | _ => False
section
variable {K : PySem.W.Frag} {g0 g g3 : Gh} {d : Addr} {f : HO}
theorem own_same (h : g.H d = some f) : g.own d f = g := by
  have e : upd g.H d f = g.H := by
    funext a
    by_cases ha : a = d
    · rw [ha, upd_same, h]
    · rw [upd_ne ha]
  show (⟨g.G, g.M, upd g.H d f⟩ : Gh) = g
  rw [e]
/-- it was locked before, it stays so -/
theorem stay_step (s0 : Step g0 g) (hG : ∃ u, g.G d = some u) (hH : g.H d = some f) (s : Step (g0.lk g d f) g3) : Step g0 g3 := by
  refine ⟨fun a o h => s.gs a o (s0.gs a o h), fun a o h => ?_, fun a h => s.ms a (s0.ms a h), fun a h => ?_, fun a o h hm => ?_, s.ok⟩
  · rcases s.gn a o h with q | q | q
    · exact s0.gn a o q
    · have q' : upd g0.H d f a = none := q
      by_cases ha : a = d
      · rw [ha, upd_same] at q'; cases q'
      · rw [upd_ne ha] at q'; exact .inr (.inl q')
    · exact .inr (.inr q)
  · rcases s.mn a h with q | q
    · exact s0.mn a q
    · have q' : upd g0.H d f a = none := q
      by_cases ha : a = d
      · rw [ha, upd_same] at q'; cases q'
      · rw [upd_ne ha] at q'; exact .inr q'
  · have hm' : a ∉ g.M := fun z => by
      rcases s0.mn a z with q | q
      · exact hm q
      · rw [h] at q; cases q
    refine s.hs a o ?_ hm'
    show upd g0.H d f a = some o
    by_cases ha : a = d
    · subst ha
      have := s0.hs a o h hm
      rw [hH] at this
      cases this
      exact upd_same
    · rw [upd_ne ha]; exact h
theorem stay_env {ρ : Rho} {σ : L2.St} (hG3 : ∃ u, g3.G d = some u) (e : EnvOk K (g0.lk g d f) g3 ρ σ) : EnvOk K g0 g3 ρ σ := by
  refine ⟨e.len, e.fz, fun i x h => ?_, e.ap⟩
  obtain ⟨p, a, o⟩ := e.ow i x h
  have np : p ≠ d := fun z => by
    obtain ⟨u, hu⟩ := hG3
    have := o.ng
    rw [z, hu] at this; cases this
  have n0 : upd g0.H d f p = none := o.n0
  rw [upd_ne np] at n0
  exact ⟨p, a, n0, o.ng, o.nm, o.at_⟩
end
theorem dp_forD (i : Nat) {X : Cx} {W : WX} {g0 : Gh} {x : Str} {sl : List Nat} {k : Nat} {tg : Expr} {p pos : Pos} {body : List Stmt} {gt : DG} {tb : DS} (C : Cn X W k) (hg : ∀ g0, DPG X g0 sl tg gt) (hb : ∀ g0, DPs X W g0 body tb) (hN : X.N[i]? = some x := by rfl)
    (hv : Vis X.env.scope x := by first | exact Or.inl rfl | exact Or.inr (Or.inl rfl) | exact Or.inr (Or.inr rfl)) (hd : (x == ("__debug__" : Str)) = false := by decide) (hcd : (x == ("__classdict__" : Str)) = false := by decide)
    (hs : ∀ y, foldedSetIterable (.Name x p) X.env y = pure y := by intro _; rfl) : DP X W g0 (.For tg (.Name x p) body [] pos) (dForD i gt tb) := by
  refine ⟨fun pins s σ H E I h => ?_⟩
  obtain ⟨g, ρ, k, rfl, s0, e, w, l⟩ := h
  have F := ps_for (pos := pos) (g := fun v σ H Q => ∃ gb, liftG X.K gb sl gt v σ H Q) (tb := fun D σ H => ∃ gb, liftS X.K W gb tb D σ H) C.po C.cm (pi_keys (tg := tg) (pe_var (pos := p) hN hv hd hcd))
    ⟨fun pins s σ H v u Q I r ⟨gb, w⟩ => (hg gb).run pins s σ H v u Q I r w⟩ ⟨fun pins s σ H D I ⟨gb, w⟩ => (hb gb).run pins s σ H D I w⟩ hs
  refine (PS.or (ps_lock F) F).run pins s σ g.H E I ?_
  have lockL : ∀ (d : Addr) (u : HO) (od : Obj), g.G d = some u → g.H d = some u → Lk X.K W (g0.lk g d (.frz od u)) { k with ex := fun _ _ => False }
      ⟨fun σ' H' => H' d = some (.frz od u) ∧ E.nx σ' (upd H' d u), fun v H' => H' d = some (.frz od u) ∧ E.rt v (upd H' d u), fun σ' H' => H' d = some (.frz od u) ∧ E.bk σ' (upd H' d u), fun σ' H' => H' d = some (.frz od u) ∧ E.ct σ' (upd H' d u)⟩ := fun d u od hG hH =>
    ⟨fun ρ' σ' g' s' e' z => ⟨(unlock_step s0 hG hH s').1, l.nx ρ' σ' _ (unlock_step s0 hG hH s').2 (unlock_env (s'.gs d u hG) e') z⟩,
     fun x v g' s' r z => ⟨(unlock_step s0 hG hH s').1, l.rt x v (g'.own d u) (unlock_step s0 hG hH s').2 (Rep.up (g := g') (g' := g'.own d u) (fun _ _ h => h) (fun _ h => h) r) z⟩,
     fun ρ' σ' g' s' e' z => ⟨(unlock_step s0 hG hH s').1, l.bk ρ' σ' _ (unlock_step s0 hG hH s').2 (unlock_env (s'.gs d u hG) e') z⟩,
     fun ρ' σ' g' s' e' z => ⟨(unlock_step s0 hG hH s').1, l.ct ρ' σ' _ (unlock_step s0 hG hH s').2 (unlock_env (s'.gs d u hG) e') z⟩, fun _ _ _ _ _ _ z => z.elim⟩
  have stayL : ∀ (d : Addr) (u : HO) (od : Obj), g.G d = some u → g.H d = some (.frz od u) → Lk X.K W (g0.lk g d (.frz od u)) { k with ex := fun _ _ => False } E := fun d u od hG hH =>
    ⟨fun ρ' σ' g' s' e' z => l.nx ρ' σ' _ (stay_step s0 ⟨u, hG⟩ hH s') (stay_env ⟨u, s'.gs d u hG⟩ e') z, fun x v g' s' r z => l.rt x v g' (stay_step s0 ⟨u, hG⟩ hH s') r z,
     fun ρ' σ' g' s' e' z => l.bk ρ' σ' _ (stay_step s0 ⟨u, hG⟩ hH s') (stay_env ⟨u, s'.gs d u hG⟩ e') z, fun ρ' σ' g' s' e' z => l.ct ρ' σ' _ (stay_step s0 ⟨u, hG⟩ hH s') (stay_env ⟨u, s'.gs d u hG⟩ e') z, fun _ _ _ _ _ _ z => z.elim⟩
  have dM : ∀ (d : Addr) (u : HO), g.G d = some u → d ∉ g.M := fun d u hG z => by
    have := s0.ok.dis d z
    rw [hG] at this; cases this
  unfold dForD at w
  split at w
  · rename_i y hy
    obtain ⟨v, hv, r⟩ := e.fz i _ hy
    cases r with
    | @dS d vs kvs hG rs =>
      rcases s0.ok.le _ _ hG with hH | ⟨_, od, hH⟩
      · refine .inl ⟨d, .dK vs, hH, trivial, fun od => ⟨.ref d, hv, d, od, rfl, .inl ⟨vs, upd_same, ?_⟩⟩⟩
        have s1 := lock_step (od := od) s0 hG trivial
        exact for_core (lockL d _ od hG hH) (yields_keyS (gb := g0.lk g d (.frz od (.dK vs))) upd_same (dM d _ hG) (RepK.up (g := g) (g' := g0.lk g d (.frz od (.dK vs))) (fun _ _ h => h) (fun _ h => h) rs)) s1 (lock_env e hG) w
      · refine .inr ⟨.ref d, hv, d, od, rfl, .inl ⟨vs, hH, ?_⟩⟩
        have s1 := lock_step (od := od) s0 hG trivial
        have e1 := lock_env (od := od) e hG
        rw [own_same hH] at s1 e1
        exact for_core (stayL d _ od hG hH) (yields_keyS (gb := g0.lk g d (.frz od (.dK vs))) upd_same (dM d _ hG) (RepK.up (g := g) (g' := g0.lk g d (.frz od (.dK vs))) (fun _ _ h => h) (fun _ h => h) rs)) s1 e1 w
    | @dT d vs kvs hG rs =>
      rcases s0.ok.le _ _ hG with hH | ⟨_, od, hH⟩
      · refine .inl ⟨d, .dT vs, hH, trivial, fun od => ⟨.ref d, hv, d, od, rfl, .inr ⟨vs, upd_same, ?_⟩⟩⟩
        have s1 := lock_step (od := od) s0 hG trivial
        exact for_core (lockL d _ od hG hH) (yields_keyT (gb := g0.lk g d (.frz od (.dT vs))) upd_same (dM d _ hG) (RepT.up (g := g) (g' := g0.lk g d (.frz od (.dT vs))) (fun _ _ h => h) (fun _ h => h) rs)) s1 (lock_env e hG) w
      · refine .inr ⟨.ref d, hv, d, od, rfl, .inr ⟨vs, hH, ?_⟩⟩
        have s1 := lock_step (od := od) s0 hG trivial
        have e1 := lock_env (od := od) e hG
        rw [own_same hH] at s1 e1
        exact for_core (stayL d _ od hG hH) (yields_keyT (gb := g0.lk g d (.frz od (.dT vs))) upd_same (dM d _ hG) (RepT.up (g := g) (g' := g0.lk g d (.frz od (.dT vs))) (fun _ _ h => h) (fun _ h => h) rs)) s1 e1 w
    | _ => exact w.elim
  · exact w.elim
end AU

/-! AuOwnD: dicts of one's own. -/
namespace AU
open PySem L2 PySem.Spec PyProof.Rows
def getT (kvs : List (List Int × D)) (k : List Int) : Option D := (kvs.find? fun kv => decide (kv.1 = k)).map (·.2)
def putT (kvs : List (List Int × D)) (k : List Int) (v : D) : List (List Int × D) :=
  if (kvs.any fun kv => decide (kv.1 = k)) = true then kvs.map (fun kv => if kv.1 = k then (kv.1, v) else kv) else kvs ++ [(k, v)]
theorem kI_inj {a b : List Int} : kI a = kI b ↔ a = b := by
  constructor
  · intro h
    induction a generalizing b with
    | nil => cases b with
      | nil => rfl
      | cons _ _ => cases h
    | cons x a ih => cases b with
      | nil => cases h
      | cons y b =>
        have h' : (Sum.inl x : Key) :: kI a = Sum.inl y :: kI b := h
        injection h' with h1 h2
        injection h1 with h1
        rw [h1, ih h2]
  · rintro rfl; rfl
section
variable {K : PySem.W.Frag} {g g' : Gh}
theorem RepT.get : ∀ {kvs : List (List Key × V)} {ds : List (List Int × D)}, RepT K g kvs ds → ∀ x : List Int, (∀ d, getT ds x = some d → ∃ v, valV kvs (kI x) = some v ∧ Rep K g v d) ∧ (getT ds x = none → valV kvs (kI x) = none)
  | _, _, .nil, x => ⟨fun d h => (by cases h), fun _ => rfl⟩
  | _, _, .cons (k := k) (v := v) (vs := vs) (d := d) (ds := ds) r rs, x => by
    obtain ⟨i1, i2⟩ := RepT.get rs x
    unfold getT valV at *
    by_cases h : k = x
    · subst h
      simp only [List.find?_cons, decide_true]
      exact ⟨fun d' h => ⟨v, rfl, by have : d = d' := Option.some.inj h; rw [← this]; exact r⟩, fun h => by cases h⟩
    · have h2 : ¬ kI k = kI x := fun z => h (kI_inj.mp z)
      simp only [List.find?_cons, decide_eq_false h, decide_eq_false h2]
      exact ⟨i1, i2⟩
theorem RepT.any : ∀ {kvs : List (List Key × V)} {ds : List (List Int × D)}, RepT K g kvs ds → ∀ x : List Int, (kvs.any fun kv => decide (kv.1 = kI x)) = ds.any fun kv => decide (kv.1 = x)
  | _, _, .nil, x => rfl
  | _, _, .cons (k := k) r rs, x => by
    rw [List.any_cons, List.any_cons, RepT.any rs x]
    by_cases h : k = x
    · subst h; rw [decide_eq_true rfl, decide_eq_true rfl]
    · have h2 : ¬ kI k = kI x := fun z => h (kI_inj.mp z)
      rw [decide_eq_false h, decide_eq_false h2]
theorem RepT.mapPut {x : List Int} {v : V} {d : D} (r : Rep K g v d) : ∀ {kvs : List (List Key × V)} {ds : List (List Int × D)}, RepT K g kvs ds →
    RepT K g (kvs.map fun kv => if kv.1 = kI x then (kv.1, v) else kv) (ds.map fun kv => if kv.1 = x then (kv.1, d) else kv)
  | _, _, .nil => .nil
  | _, _, .cons (k := k) q rs => by
    rw [List.map_cons, List.map_cons]
    by_cases h : k = x
    · subst h
      rw [if_pos rfl, if_pos rfl]
      exact .cons r (RepT.mapPut r rs)
    · have h2 : ¬ kI k = kI x := fun z => h (kI_inj.mp z)
      rw [if_neg h, if_neg h2]
      exact .cons q (RepT.mapPut r rs)
theorem RepT.app : ∀ {kvs ws : List (List Key × V)} {ds es : List (List Int × D)}, RepT K g kvs ds → RepT K g ws es → RepT K g (kvs ++ ws) (ds ++ es)
  | _, _, _, _, .nil, s => s
  | _, _, _, _, .cons r rs, s => .cons r (RepT.app rs s)
theorem RepT.put {kvs : List (List Key × V)} {ds : List (List Int × D)} {x : List Int} {v : V} {d : D} (rs : RepT K g kvs ds) (r : Rep K g v d) : RepT K g (putK kvs (kI x) v) (putT ds x d) := by
  unfold putK putT
  rw [rs.any x]
  split
  · exact RepT.mapPut r rs
  · exact rs.app (.cons r .nil)
/-- a tuple of numbers, as a key -/
theorem key_at {a : Addr} {vs : List V} {n : Int} {ns : List Int} (h : Hold g) (t : TpAt K g.G a vs) (r : Reps K g vs ((n :: ns).map D.int)) : g.H a = some (.tup ((kI (n :: ns)).map kV)) := by
  have e := ints_of_reps r
  subst e
  rcases t.2 with q | q
  · rcases h.le _ _ q with z | ⟨z, _⟩
    · rw [kV_kI]; exact z
    · exact z.elim
  · obtain ⟨z, e⟩ := q (.int n) (by simp)
    cases e
end
section
variable {X : Cx} {W : WX} {g0 : Gh} {pos : Pos}
theorem df_newS : DF X W g0 (.Dict [] [] pos) (dC (.dS [])) := PE.imp pe_dnewK fun σ H Q h => by
  obtain ⟨g, ρ, P, Ex, rfl, s0, e, w, q, x⟩ := h
  intro p hp
  have s := s0.ok.own (.dK []) hp
  exact q _ w p (g.own p (.dK [])) s hp ⟨s0.none hp, s0.ok.free hp, s0.ok.notM hp, [], upd_same, .nil⟩
theorem df_newT : DF X W g0 (.Dict [] [] pos) (dC (.dT [])) := PE.imp pe_dnewT fun σ H Q h => by
  obtain ⟨g, ρ, P, Ex, rfl, s0, e, w, q, x⟩ := h
  intro p hp
  have s := s0.ok.own (.dT []) hp
  exact q _ w p (g.own p (.dT [])) s hp ⟨s0.none hp, s0.ok.free hp, s0.ok.notM hp, [], upd_same, .nil⟩
end
/-- a tuple of numbers, one or more, as a key -/
def keyP (ks : List D) (P : List Int → Prop) : Prop := ∃ n ns, ks = List.map D.int (n :: ns) ∧ P (n :: ns)
@[simp] theorem keyP1 {i : Int} {P : List Int → Prop} : keyP [.int i] P ↔ P [i] := by
  constructor
  · rintro ⟨n, ns, e, h⟩
    cases ns with
    | nil => cases e; exact h
    | cons _ _ => cases e
  · intro h
    exact ⟨i, [], rfl, h⟩
@[simp] theorem keyP2 {i j : Int} {P : List Int → Prop} : keyP [.int i, .int j] P ↔ P [i, j] := by
  constructor
  · rintro ⟨n, ns, e, h⟩
    match ns, e with
    | [m], e => cases e; exact h
    | [], e => cases e
    | _ :: _ :: _, e => cases e
  · intro h
    exact ⟨i, [j], rfl, h⟩
theorem keyP_of {n : Int} {ns : List Int} {P : List Int → Prop} (h : P (n :: ns)) : keyP (List.map D.int (n :: ns)) P := ⟨n, ns, rfl, h⟩
/-- x[key] = value, x one's own dict -/
@[simp] def putD (i : Nat) (kd v : D) (ρ : Rho) (P : Rho → Prop) : Prop := match ρ[i]?, kd with
  | some (.ow (.dS ds)), .str x => ds.length < 16777216 ∧ P (ρ.set i (.ow (.dS (putS ds x v))))
  | some (.ow (.dT ds)), .tup ks => keyP ks fun k => ds.length < 16777216 ∧ P (ρ.set i (.ow (.dT (putT ds k v))))
  | _, _ => False
@[simp] def dPut (i : Nat) (tk tv : DT) : DS := fun ρ k => tv ρ (fun v => tk ρ (fun kd => putD i kd v ρ k.nx) (k.ex ρ)) (k.ex ρ)
section
variable {X : Cx} {W : WX} {g0 : Gh} {k : Nat} {x : Str} {key value : Expr} {tk tv : DT} {p pos' pos : Pos}
theorem dp_put (i : Nat) (C : Cn X W k) (hk : DE X W g0 key tk) (hv : DE X W g0 value tv) (hN : X.N[i]? = some x := by rfl) (hvs : Vis X.env.scope x := by first | exact Or.inl rfl | exact Or.inr (Or.inl rfl) | exact Or.inr (Or.inr rfl))
    (hd : (x == ("__debug__" : Str)) = false := by decide) (hcd : (x == ("__classdict__" : Str)) = false := by decide) (hs : swapsWith value (some (.Subscript (.Name x p) key pos')) pos.line X.env = pure false := by rfl) :
    DP X W g0 (.Assign [.Subscript (.Name x p) key pos'] value pos) (fun ρ k => (∃ d, ρ[i]? = some (.ow d)) ∧ dPut i tk tv ρ k) := PS.imp (ps_dput (hu_of C) (pe_var hN hvs hd hcd) hk hv hs) fun E σ H h => by
  obtain ⟨g, ρ, k, rfl, s0, en, ⟨⟨d0, h0⟩, t⟩, l⟩ := h
  refine ⟨g, ρ, _, _, rfl, s0, en, t, fun vd hvd v g1 s1 r1 => ?_, l.xok s0 en⟩
  obtain ⟨q, hq, ow⟩ := en.ow i d0 h0
  refine ⟨.ref q, hq, g1, ρ, _, _, rfl, s0.trans s1, en.step s1, hvd, fun kd hkd u g2 s2 r2 => ?_, (l.xok s0 en).step s1⟩
  have s02 := s0.trans (s1.trans s2)
  have e2 := en.step (s1.trans s2)
  have o2 := ow.step (s1.trans s2)
  have rv := r1.step s2
  unfold putD at hkd
  rw [h0] at hkd
  cases d0 with
  | dS ds =>
    cases r2 with
    | str z =>
      obtain ⟨hl, hn⟩ := hkd
      obtain ⟨kvs, hH, rs⟩ := o2.at_
      obtain ⟨s3, e3⟩ := e2.write (o := .dK (putK kvs (Sum.inr z) v)) (d' := .dS (putS ds z vd)) s02 h0 hq ⟨_, upd_same, RepK.up (g := g2) (g' := g2.own q _) (fun _ _ h => h) (fun _ h => h) (RepK.put rs rv)⟩
      exact ⟨q, _, rfl, .inl ⟨kvs, Sum.inr z, hH, rfl, by rw [rs.length, sizeLine_eq]; exact hl, rfl⟩, l.nx _ _ _ s3 e3 hn⟩
    | _ => exact hkd.elim
  | dT ds =>
    cases r2 with
    | @tup b vs ks hb rb =>
      obtain ⟨n, ns, rfl, hl, hn⟩ := hkd
      obtain ⟨kvs, hH, rs⟩ := o2.at_
      obtain ⟨s3, e3⟩ := e2.write (o := .dT (putK kvs (kI (n :: ns)) v)) (d' := .dT (putT ds (n :: ns) vd)) s02 h0 hq ⟨_, upd_same, RepT.up (g := g2) (g' := g2.own q _) (fun _ _ h => h) (fun _ h => h) (RepT.put rs rv)⟩
      exact ⟨q, _, rfl, .inr ⟨kvs, kI (n :: ns), b, hH, rfl, key_at s2.ok hb rb, by rw [rs.length, sizeLine_eq]; exact hl, rfl⟩, l.nx _ _ _ s3 e3 hn⟩
    | _ => exact hkd.elim
  | _ => cases r2 <;> exact hkd.elim
end
/-- x.get(key, default), x one's own dict -/
@[simp] def getO (i : Nat) (kd z : D) (ρ : Rho) (P : D → Prop) : Prop := match ρ[i]?, kd with
  | some (.ow (.dS ds)), .str x => P ((getS ds x).getD z)
  | some (.ow (.dT ds)), .tup ks => keyP ks fun k => P ((getT ds k).getD z)
  | _, _ => False
@[simp] def isDct : D → Prop
  | .dS _ => True
  | .dT _ => True
  | _ => False
@[simp] def dGetO (i : Nat) (tk tz : DT) : DT := fun ρ P Ex => (∃ d, ρ[i]? = some (.ow d) ∧ isDct d) ∧ tk ρ (fun kd => tz ρ (fun z => getO i kd z ρ P) Ex) Ex
section
variable {X : Cx} {W : WX} {g0 : Gh} {k : Nat} {x : Str} {key value : Expr} {tk tz : DT} {p apos pos : Pos}
theorem de_getO (i : Nat) (C : Cn X W k) (hk : DE X W g0 key tk) (hv : DE X W g0 value tz) (hN : X.N[i]? = some x := by rfl) (hvs : Vis X.env.scope x := by first | exact Or.inl rfl | exact Or.inr (Or.inl rfl) | exact Or.inr (Or.inr rfl))
    (hd : (x == ("__debug__" : Str)) = false := by decide) (hcd : (x == ("__classdict__" : Str)) = false := by decide) (m : M2 X (.Name x p) "get" apos key value pos := by exact ⟨rfl, rfl, rfl, rfl⟩) :
    DE X W g0 (.Call (.Attribute (.Name x p) "get" apos) [key, value] [] pos) (dGetO i tk tz) := PE.imp (pe_dget2 (hu_of C) (pe_var hN hvs hd hcd) hk hv m) fun σ H Q h => by
  obtain ⟨g, ρ, P, Ex, rfl, s0, en, ⟨⟨d0, h0, hdd⟩, t⟩, q, xx⟩ := h
  obtain ⟨a, ha, ow⟩ := en.ow i d0 h0
  refine ⟨.ref a, ha, a, rfl, ?_, g, ρ, _, _, rfl, s0, en, t, fun kd hkd u g1 s1 r1 => ?_, xx⟩
  · cases d0 with
    | dS ds => obtain ⟨kvs, hH, rs⟩ := ow.at_; exact .inl ⟨kvs, .inl hH⟩
    | dT ds => obtain ⟨kvs, hH, rs⟩ := ow.at_; exact .inr ⟨kvs, .inl hH⟩
    | _ => exact hdd.elim
  refine ⟨g1, ρ, _, _, rfl, s0.trans s1, en.step s1, hkd, fun zd hz z g2 s2 r2 => ?_, xx.step s1⟩
  have o2 := ow.step (s1.trans s2)
  have rk := r1.step s2
  unfold getO at hz
  rw [h0] at hz
  cases d0 with
  | dS ds =>
    cases rk with
    | str y =>
      obtain ⟨kvs, hH, rs⟩ := o2.at_
      refine ⟨valV kvs (Sum.inr y), .inl ⟨kvs, Sum.inr y, .inl hH, rfl, rfl⟩, ?_⟩
      obtain ⟨i1, i2⟩ := rs.get y
      have hz : P ((getS ds y).getD zd) := hz
      cases e : getS ds y with
      | none =>
        rw [i2 e]
        rw [e] at hz
        exact q _ hz _ g2 (s1.trans s2) r2
      | some dd =>
        obtain ⟨w, e2, rw'⟩ := i1 dd e
        rw [e2]
        rw [e] at hz
        exact q _ hz _ g2 (s1.trans s2) rw'
    | _ => exact hz.elim
  | dT ds =>
    cases rk with
    | @tup b vs ks hb rb =>
      obtain ⟨n, ns, rfl, hz⟩ := hz
      obtain ⟨kvs, hH, rs⟩ := o2.at_
      refine ⟨valV kvs (kI (n :: ns)), .inr ⟨kvs, kI (n :: ns), b, .inl hH, rfl, key_at s2.ok hb rb, rfl⟩, ?_⟩
      obtain ⟨i1, i2⟩ := rs.get (n :: ns)
      cases e : getT ds (n :: ns) with
      | none =>
        rw [i2 e]
        rw [e] at hz
        exact q _ hz _ g2 (s1.trans s2) r2
      | some dd =>
        obtain ⟨w, e2, rw'⟩ := i1 dd e
        rw [e2]
        rw [e] at hz
        exact q _ hz _ g2 (s1.trans s2) rw'
    | _ => exact hz.elim
  | _ => exact hdd.elim
end
/-- d[k] -/
@[simp] def getF (x kd : D) (P : D → Prop) : Prop := match x, kd with
  | .dS ds, .str k => ∃ d, getS ds k = some d ∧ P d
  | .dT ds, .tup ks => keyP ks fun k => ∃ d, getT ds k = some d ∧ P d
  | _, _ => False
@[simp] def dGetF (td ty : DT) : DT := fun ρ P Ex => td ρ (fun x => ty ρ (fun kd => getF x kd P) Ex) Ex
section
variable {X : Cx} {W : WX} {g0 : Gh} {k : Nat} {pos : Pos}
theorem de_getF {o i : Expr} {td ty : DT} (C : Cn X W k) (ho : DE X W g0 o td) (hi : DE X W g0 i ty) (hs : NoSl i := by intro _ _; rfl) : DE X W g0 (.Subscript o i pos) (dGetF td ty) := PE.imp (pe_dget (hu_of C) ho hi hs) fun σ H Q w => by
  obtain ⟨g, ρ, P, Ex, rfl, s0, e, w, q, x⟩ := w
  refine ⟨g, ρ, _, Ex, rfl, s0, e, w, fun a ha v g1 s1 r1 => ?_, x⟩
  refine ⟨g1, ρ, _, Ex, rfl, s0.trans s1, e.step s1, ha, fun b hb u g2 s2 r2 => ?_, x.step s1⟩
  have r1 := r1.step s2
  cases r1 with
  | @dS a kvs ds hp rs =>
    cases r2 with
    | str z =>
      obtain ⟨d, h1, h2⟩ := hb
      obtain ⟨v, h3, h4⟩ := (rs.get z).1 d h1
      refine ⟨a, v, rfl, .inl ⟨kvs, Sum.inr z, ?_, rfl, h3.symm⟩, q _ h2 _ g2 (s1.trans s2) h4⟩
      rcases s2.ok.le _ _ hp with q | ⟨_, ob, q⟩
      · exact .inl q
      · exact .inr ⟨ob, q⟩
    | _ => exact hb.elim
  | @dT a kvs ds hp rs =>
    cases r2 with
    | @tup b vs ks hb' rb =>
      obtain ⟨n, ns, rfl, d, h1, h2⟩ := hb
      obtain ⟨v, h3, h4⟩ := (rs.get (n :: ns)).1 d h1
      refine ⟨a, v, rfl, .inr ⟨kvs, kI (n :: ns), b, ?_, rfl, key_at s2.ok hb' rb, h3.symm⟩, q _ h2 _ g2 (s1.trans s2) h4⟩
      rcases s2.ok.le _ _ hp with q | ⟨_, ob, q⟩
      · exact .inl q
      · exact .inr ⟨ob, q⟩
    | _ => exact hb.elim
  | _ => cases r2 <;> exact hb.elim
end
@[simp] def dPutO (i : Nat) (tk tv : DT) : DS := fun ρ k => (∃ d, ρ[i]? = some (.ow d)) ∧ dPut i tk tv ρ k
/-- Chance(a, b), by j levels -/
def MkC (P : Program) (w : World) (K : PySem.W.Frag) (mg : Str → Option Value) (base : Heap) (j : Nat) (S : Spec) : Prop :=
  (∀ ds P Ex, S ds P Ex → ds.length = 2) ∧ ∃ fd, FnOk P w K mg base (L2.CX P w) j (He.ma K (He.ga K "Chance") "__init__") fd nInit (spInit K S) ∧ Binds K fd nInit []
/-- the method m of a chance -/
def MtC (P : Program) (w : World) (K : PySem.W.Frag) (mg : Str → Option Value) (base : Heap) (j : Nat) (m : Str) (S : Spec) : Prop :=
  ∃ (f : Addr) (fd : FuncData) (ps : List Str), Meth K (He.ga K "Chance") m f ∧ FnOk P w K mg base (L2.CX P w) j f fd ps (spD K S) ∧ Binds K fd ps []
section
variable {X : Cx} {W : WX} {g0 : Gh} {k j : Nat} {S : Spec} {o e : Expr} {es : List Expr} {to : DT} {ts : DA} {m : Str} {apos p pos : Pos}
theorem de_mk (C : Cn X W k) (T : ChK X.K X.mg) (M : MkC X.prog X.w X.K X.mg X.base j S) (hj : j + 1 ≤ k) (ha : DPA X W g0 (e :: es) ts) (hg : Gl X "Chance" := by rfl)
    (he : starEach (e :: es) X.env = (false, eval e X.env) :: starEach es X.env := by rfl) (hpl : (backTo pos (starEach es X.env)).any (·.1) = false := by rfl) : DE X W g0 (.Call (.Name "Chance" p) (e :: es) [] pos) (dCall S ts) := by
  obtain ⟨len, fd, F, hb⟩ := M
  exact de_chance C T F hb hj ha len hg he hpl
end
/-- the operator's def of chances (its name with the underscores: nm) -/
def OpC (P : Program) (w : World) (K : PySem.W.Frag) (mg : Str → Option Value) (base : Heap) (j : Nat) (nm : Str) (S : Spec) : Prop :=
  ∃ (f : Addr) (fd : FuncData) (ps : List Str), PySem.W.findIn K (.ref (He.ga K "Chance")) nm = some (some (.ref f)) ∧ PySem.W.isFn K (.ref f) = true ∧ PySem.W.selfFirst K (He.ga K "Chance") = true ∧ FnOk P w K mg base (L2.CX P w) j f fd ps (spD K S) ∧ Binds K fd ps []
section
variable {X : Cx} {W : WX} {g0 : Gh} {k j : Nat} {S : Spec} {a b : Expr} {ta tb : DT} {pos : Pos}
theorem de_opC {op : Operator} (C : Cn X W k) (F : OpC X.prog X.w X.K X.mg X.base j (PySem.dunder op.info.2) S) (hj : j ≤ k) (ha : DE X W g0 a ta) (hb : DE X W g0 b tb) : DE X W g0 (.BinOp a op b pos) (dOp (fOwn S) ta tb) := by
  obtain ⟨f, fd, ps, hs, hf, hc, F, hbd⟩ := F
  exact de_op (opr_own C F hj hbd hc hs hf) rel_own ha hb
theorem de_eqC (C : Cn X W k) (F : OpC X.prog X.w X.K X.mg X.base j (cmpInfo .Eq).2.1 S) (hj : j ≤ k) (ha : DE X W g0 a ta) (hb : DE X W g0 b tb) : DE X W g0 (.Compare a [.Eq] [b] pos) (dOp (fOwn S) ta tb) := by
  obtain ⟨f, fd, ps, hs, hf, hc, F, hbd⟩ := F
  exact de_cmp (opr_cmpOwn C (fun _ _ => rfl) F hj hbd hs hf) rel_own ha hb (nomark _)
end
end AU

/-! AuSort: sorted. -/
namespace AU
open PySem L2 PySem.Spec PyProof.Rows
theorem bt_sorted : bootBuiltins ("sorted" : Str) = some (.builtin "sorted") := by decide +kernel
/-- sorted(d), d a dict with fewer than 64 keys, texts -/
@[simp] def fSortD : D → (D → Prop) → Prop
  | .dS kvs, P => kvs.length < 64 ∧ ∀ ys : List Str, ys.Perm (kvs.map (·.1)) → sortedS ys = true → P (.lst (ys.map D.str))
  | _, _ => False
/-- sorted(xs), whole numbers -/
@[simp] def fSortI : D → (D → Prop) → Prop
  | .lst ds, P => ∃ ns, nums ds = some ns ∧ ∀ ms : List Int, ms.Perm ns → ms.Pairwise (· ≤ ·) → P (.lst (ms.map D.int))
  | _, _ => False
section
variable {K : PySem.W.Frag}
theorem repK_keys {g : Gh} : ∀ {vs : List (Key × V)} {kvs : List (Str × D)}, RepK K g vs kvs → vs.map (·.1) = (kvs.map (·.1)).map Sum.inr
  | _, _, .nil => rfl
  | _, _, .cons r rs => by rw [List.map_cons, List.map_cons, List.map_cons, repK_keys rs]
theorem rel_sortD : RelC K (fun xs H Q => ∃ (a : Addr) (kvs : List (Key × V)) (ks : List Str), xs = [.ref a] ∧ Rd H a (.dK kvs) ∧ kvs.map (·.1) = ks.map Sum.inr ∧ ks.length < 64 ∧
    ∀ ys p, ys.Perm ks → sortedS ys = true → H p = none → Q (.ref p) (upd H p (.lst (ys.map V.str)))) (on1 fSortD) := by
  intro g0 g xs a P Q s rs w q
  cases rs with
  | nil => exact w.elim
  | cons r rs =>
    cases rs with
    | cons _ _ => exact w.elim
    | nil =>
      cases r with
      | @dS p vs ds hp rk =>
        obtain ⟨h64, hw⟩ := w
        refine ⟨p, vs, ds.map (·.1), rfl, ?_, repK_keys rk, by rw [List.length_map]; exact h64, fun ys l hpm hs hl => ?_⟩
        · rcases s.ok.le _ _ hp with q | ⟨_, ob, q⟩
          · exact .inl q
          · exact .inr ⟨ob, q⟩
        · obtain ⟨s2, r2⟩ := newLst s.ok hl (reps_strs (K := K) ys)
          exact q _ (hw ys hpm hs) _ _ s2 r2
      | _ => exact w.elim
theorem rel_sortI : RelC K (rSortedI K) (on1 fSortI) := by
  intro g0 g xs a P Q s rs w q
  cases rs with
  | nil => exact w.elim
  | cons r rs =>
    cases rs with
    | cons _ _ => exact w.elim
    | nil =>
      cases r with
      | @lst p vs ds hp rk =>
        obtain ⟨ns, h1, hw⟩ := w
        have e := nums_eq h1
        subst e
        refine ⟨p, ns, rfl, SqL.of (by rw [← ints_of_reps rk]; exact s.ok.lst hp), fun ms l hpm hs hl => ?_⟩
        obtain ⟨s2, r2⟩ := newLst s.ok hl (reps_ints (K := K) ms)
        exact q _ (hw ms hpm hs) _ _ s2 r2
      | _ => exact w.elim
end
section
variable {X : Cx} {W : WX} {g0 : Gh} {k : Nat} {e : Expr} {ts : DA} {p pos : Pos}
theorem dc_sortD (C : Cn X W k) (B : Bi X.mg) (ha : DPA X W g0 [e] ts) (hg : Gl X "sorted" := by rfl) (he : starEach [e] X.env = (false, eval e X.env) :: starEach [] X.env := by rfl) (hpl : (backTo pos (starEach [] X.env)).any (·.1) = false := by rfl) :
    DE X W g0 (.Call (.Name "sorted" p) [e] [] pos) (dB (on1 fSortD) ts) := de_callB (call_sortedD C.cm) rel_sortD (B.at_ "sorted") bt_sorted ha hg (by decide) (by decide) he hpl
theorem dc_sortI (B : Bi X.mg) (ha : DPA X W g0 [e] ts) (hg : Gl X "sorted" := by rfl) (he : starEach [e] X.env = (false, eval e X.env) :: starEach [] X.env := by rfl) (hpl : (backTo pos (starEach [] X.env)).any (·.1) = false := by rfl) :
    DE X W g0 (.Call (.Name "sorted" p) [e] [] pos) (dB (on1 fSortI) ts) := de_callB cr_sortedI rel_sortI (B.at_ "sorted") bt_sorted ha hg (by decide) (by decide) he hpl
end
end AU

/-! AuTD: dicts whose keys are tuples, over the heap: dict(d), sorted(d), ==, displays. -/
namespace AU
open PySem L2 PySem.Spec PyProof.Rows
/-! ### dict(d) -/
section
variable {prog : Program} {w : World} {κ : Type} [DecidableEq κ] {kd : HeapKind prog w κ} {B : Around} {Er : Value → Shared → Prop} {s : Shared}
/-- dict(d), d a dict with keys that are objects, no two of them of one hash -/
theorem copyH {src : Addr} {ps : List (κ × Addr × Value)} {Qv : Value → Shared → Prop} (room : kd.room B.in1.in1) (sm : (src == sysModules) = false) (at_ : s.heap.DictOfH kd src ps) (few : ps.length ≤ sizeLine)
    (tup : ∀ p ∈ ps, s.TypeIs (.ref p.2.1) "tuple") (apart : (ps.map fun p => kd.hash p.1).Nodup)
    (stay : ∀ hp : Heap, (∀ b o, s.heap.get? b = some o → hp.get? b = some o) → ∀ p ∈ ps, kd.is hp p.1 p.2.1)
    (fin : ∀ hp, hp.DictOfH kd s.heap.objs.size ps → Heap.SameBut s.heap.objs.size (s.heap.push { cls := .type "dict", data := .dict #[] }) hp → Qv (.ref s.heap.objs.size) { s with heap := hp }) :
    wpAny (model prog w) B (call (.type "dict") [.ref src]) Qv Er s := by
  refine callType_codes (Q₁ := fun y s1 => y = .ref s.heap.objs.size ∧ s1 = { s with heap := s.heap.push { cls := .type "dict", data := .dict #[] } }) F.kt_called_dict (F.kt_typeCall_dict_1 _) F.entry_dict_init (kt_code_dict_new _ ⟨rfl, rfl⟩) ?_
  rintro y s1 ⟨rfl, rfl⟩
  have empty : (s.heap.push { cls := .type "dict", data := .dict #[] }).DictOfH kd s.heap.objs.size [] := Heap.DictOfH.new s.heap
  have ne : s.heap.objs.size ≠ src := fun e => absurd at_.lt_size (by rw [← e]; exact Nat.lt_irrefl _)
  have old : ∀ b o, s.heap.get? b = some o → (s.heap.push { cls := .type "dict", data := .dict #[] }).get? b = some o := fun b o e => Heap.get?_push_of_some _ e
  have sb : (s.heap.push { cls := .type "dict", data := .dict #[] }).DictOfH kd src ps := at_.at' (old src) (stay _ old)
  have ty : Shared.TypeIs { s with heap := s.heap.push { cls := .type "dict", data := .dict #[] } } (.ref s.heap.objs.size) "dict" := ⟨_, Heap.get?_push_size _ rfl, rfl⟩
  refine ⟨ty, F.args_dict_init_2 _ _, ?_⟩
  unfold Builtin.«dict.__init__»
  refine wpAny_bind ?_
  unfold Builtin.Dict.selfAndRest
  refine wpAny_bind (wpAny_notOrdered_dict ty ?_)
  refine wpAny_pure ?_
  have nd := at_.nodup
  refine updateFrom_dictH .none room ne sm empty sb (.inr ⟨fun p hp => let ⟨o, a, b⟩ := tup p hp; ⟨o, old _ _ a, b⟩, apart⟩) (by simpa using few) fun hp hd _ hs => ?_
  rw [storedAllH_nil_of_nodup ps nd] at hd
  exact ⟨rfl, fin hp hd hs⟩

/-! ### == -/
/-- entry by entry: is it in the other one, and alike -/
inductive HitsH (B : Around) (s : Shared) (ys : List (κ × Addr × Value)) : List (κ × Addr × Value) → Bool → Prop
  | nil : HitsH B s ys [] true
  | miss {k : κ} {a : Addr} {v : Value} {xs : List (κ × Addr × Value)} : (∀ (j : Nat) (p : Addr × Value), ys[j]? ≠ some (k, p)) → HitsH B s ys ((k, a, v) :: xs) false
  | hit {k : κ} {a c : Addr} {v y : Value} {j : Nat} {xs : List (κ × Addr × Value)} {e b : Bool} : ys[j]? = some (k, c, y) → SeqAt.EqAt B s v y e → HitsH B s ys xs b → HitsH B s ys ((k, a, v) :: xs) (e && b)
theorem samePairsH {nm : String} {a b : Addr} {xs ys : List (κ × Addr × Value)} {r : Bool} {Qb : Bool → Shared → Prop} (room : kd.room B) (sa : (a == sysModules) = false) (sb : (b == sysModules) = false)
    (da : s.heap.DictOfH kd a xs) (db : s.heap.DictOfH kd b ys) (hits : xs.length = ys.length → HitsH B s ys xs r) (fin : Qb (xs.length == ys.length && r) s) :
    wpAny (model prog w) B (Builtin.Dict.samePairs nm a b) Qb Er s := by
  obtain ⟨oa, ea, pa, ga, _, ta, la, ia, na⟩ := da
  obtain ⟨ob, eb, pb, gb, _, tb, lb, ib, nb⟩ := db
  have za : ea.size = xs.length := size_of_entries la
  have zb : eb.size = ys.length := size_of_entries lb
  unfold Builtin.Dict.samePairs Builtin.Dict.showsAll
  rw [if_neg (show ¬ (a == sysModules) = true by rw [sa]; exact Bool.false_ne_true), if_neg (show ¬ (b == sysModules) = true by rw [sb]; exact Bool.false_ne_true)]
  refine wpAny_bind (wpAny_pure (wpAny_bind (wpAny_pure (wpAny_bind (wpAny_dictEntries ga ta ?_)))))
  dsimp only
  refine wpAny_bind (wpAny_dictEntries gb tb ?_)
  by_cases hz : xs.length = ys.length
  · have f1 : Qb r s := by simpa [hz] using fin
    have h1 := hits hz
    rw [if_neg (by rw [za, zb, hz]; simp)]
    refine wpAny_bind (wpAny_dictEpoch ga ta (wpAny_bind ?_))
    rw [Std.Legacy.Range.forIn_eq_forIn_range']
    simp only [Std.Legacy.Range.size, Nat.sub_zero, Nat.add_sub_cancel, Nat.div_one]
    refine wpAny_forIn_list _ (fun todo st s' => s' = s ∧ st = (none, ()) ∧ ∃ i, todo = List.range' i (ea.size - i) ∧ i ≤ ea.size ∧ HitsH B s ys (xs.drop i) r) _ ?_ ?_ _ _ ⟨rfl, rfl, 0, by simp, Nat.zero_le _, h1⟩
    · rintro x todo st s' ⟨rfl, rfl, i, ht, hi, hh⟩
      have lt : i < ea.size := Nat.lt_of_not_le fun z => by rw [Nat.sub_eq_zero_of_le z] at ht; simp at ht
      have ht' : x = i ∧ todo = List.range' (i + 1) (ea.size - (i + 1)) := by
        rw [show ea.size - i = (ea.size - (i + 1)) + 1 by omega, List.range'_succ] at ht
        injection ht with q1 q2
        exact ⟨q1, q2⟩
      obtain ⟨rfl, ht'⟩ := ht'
      have ltx : x < xs.length := by omega
      obtain ⟨k, c, v, hx⟩ : ∃ k c v, xs[x] = (k, c, v) := ⟨_, _, _, rfl⟩
      have hx? : xs[x]? = some (k, c, v) := by rw [List.getElem?_eq_getElem ltx, hx]
      have en : ea[x]? = some (entryOfKey kd (k, c, v)) := by rw [entry_at la, hx?]; rfl
      rw [List.drop_eq_getElem_cons ltx, hx] at hh
      refine wpAny_bind (wpAny_dictEntries ga ta ?_)
      rw [en]
      show wpAny _ _ (holding [Value.ref c, v] _ >>= _) _ _ _
      refine wpAny_bind (wpAny_holding (wpAny_bind ?_))
      refine wpAny_dictFind_heap room (ia (k, c, v) (List.mem_of_getElem? hx?)) gb tb lb ib nb (fun no => ?_) (fun j p hj => ?_)
      · have er : r = false := by
          cases hh with
          | miss _ => rfl
          | hit hy _ _ => exact absurd hy (no _ _)
        rw [er] at f1
        refine wpAny_pure ?_
        show wpAny _ _ (if (!false) = true then _ else _) _ _ _
        rw [if_pos (by decide)]
        exact wpAny_pure (wpAny_pure f1)
      · refine wpAny_bind (wpAny_dictEntries gb tb ?_)
        obtain ⟨c', y⟩ := p
        have en2 : eb[j]? = some (entryOfKey kd (k, c', y)) := by rw [entry_at lb, hj]; rfl
        rw [en2]
        cases hh with
        | miss no => exact absurd hj (no _ _)
        | @hit _ _ c2 _ y2 j2 _ e b' hy he hr =>
          have jj : j2 = j := by
            have m1 : (ys.map (·.1))[j2]? = some k := by rw [List.getElem?_map, hy]; rfl
            have m2 : (ys.map (·.1))[j]? = some k := by rw [List.getElem?_map, hj]; rfl
            exact (List.getElem?_inj (List.getElem?_eq_some_iff.mp m1).1 nb).mp (m1.trans m2.symm)
          subst jj
          rw [hj] at hy
          cases hy
          refine wpAny_holding (he prog w _ _ ?_)
          cases e with
          | false =>
            rw [Bool.false_and] at f1
            show wpAny _ _ (if (!false) = true then _ else _) _ _ _
            rw [if_pos (by decide)]
            exact wpAny_pure (wpAny_pure f1)
          | true =>
            rw [Bool.true_and] at *
            show wpAny _ _ (if (!true) = true then _ else _) _ _ _
            rw [if_neg (by decide)]
            refine wpAny_bind (wpAny_dictEpoch ga ta ?_)
            rw [if_neg (by simp)]
            exact wpAny_pure ⟨rfl, rfl, x + 1, ht', lt, hr⟩
    · rintro st s' ⟨rfl, rfl, i, ht, hi, hh⟩
      have e0 : i = ea.size := Nat.le_antisymm hi (Nat.le_of_not_lt fun z => by
        rw [show ea.size - i = (ea.size - (i + 1)) + 1 by omega, List.range'_succ] at ht; exact nomatch ht)
      refine wpAny_pure ?_
      rw [e0, za, List.drop_length] at hh
      cases hh
      exact f1
  · have e0 : (xs.length == ys.length) = false := by simpa using hz
    rw [e0, Bool.false_and] at fin
    rw [if_pos (by rw [za, zb]; simpa using hz)]
    exact wpAny_bind (wpAny_rule (wpAny_pure fin))
theorem eqH {a b : Addr} {xs ys : List (κ × Addr × Value)} {r : Bool} {Qv : Value → Shared → Prop} (room : kd.room B.in1) (sa : (a == sysModules) = false) (sb : (b == sysModules) = false)
    (da : s.heap.DictOfH kd a xs) (db : s.heap.DictOfH kd b ys) (hu : B.units < cLine) (hits : xs.length = ys.length → HitsH B.in1 s ys xs r) (fin : Qv (.bool (xs.length == ys.length && r)) s) :
    wpAny (model prog w) B (compareOp .Eq (.ref a) (.ref b)) Qv Er s := by
  have tA : s.TypeIs (.ref a) "dict" := let ⟨o, _, _, g, c, _⟩ := da; ⟨o, g, c.1⟩
  have tB : s.TypeIs (.ref b) "dict" := let ⟨o, _, _, g, c, _⟩ := db; ⟨o, g, c.1⟩
  refine wpAny_richCompare_same_room (op := .Eq) tA tB PySem.F.slot_dict_eq (wpAny_call_entry PySem.F.slot_dict_eq tA PySem.F.entry_dict_eq ?_ (PySem.F.args_dict_eq_2 _ _)) hu
  show wpAny _ _ (Builtin.Dict.dictSlotArgs "__eq__" ⟨[.ref a, .ref b], []⟩ >>= _) _ _ s
  refine wpAny_bind ?_
  unfold Builtin.Dict.dictSlotArgs
  refine wpAny_bind (wpAny_notOrdered_dict tA (wpAny_pure (wpAny_bind (wpAny_isInstance (T := "dict") tB PySem.F.sub_dict_dict ?_))))
  simp only [Bool.not_true, Bool.false_eq_true, if_false]
  refine wpAny_bind (wpAny_pure (wpAny_bind (wpAny_pure (wpAny_bind (samePairsH room sa sb da db hits (wpAny_pure ⟨_, rfl, (fun x => nomatch x), ?_⟩))))))
  simpa using fin
end

/-! ### as rules of the layer -/
theorem kt_mem {H : Hp} {kvs : List (List Key × V)} {ps : List (List Key × Addr × Value)} (r : KT H kvs ps) : ∀ p ∈ ps, H p.2.1 = some (.tup (p.1.map kV)) := by
  induction r with
  | nil => intro p hp; cases hp
  | @cons a b as bs h t ih =>
    intro p hp
    rcases List.mem_cons.mp hp with e | hp
    · subst e; rw [← h.1]; exact h.2.1
    · exact ih p hp
theorem kt_keys {H : Hp} {kvs : List (List Key × V)} {ps : List (List Key × Addr × Value)} (r : KT H kvs ps) : ps.map (·.1) = kvs.map (·.1) := by
  induction r with
  | nil => rfl
  | cons h t ih => rw [List.map_cons, List.map_cons, ih, h.1]
theorem tup_is {P : Program} {w : World} {H : Hp} {s : Shared} {b : Addr} {vs : List V} (ok : HOk P w H s.heap) (h : H b = some (.tup vs)) : s.TypeIs (.ref b) "tuple" := by
  obtain ⟨_, its, r, o, h1, h2, n, h3⟩ := (show ObjOk P w H s.heap b (.tup vs) from ok b _ h)
  exact ⟨o, h1, h2⟩
section
variable {X : Cx}
/-- dict(d), its keys tuples, no two of one hash -/
theorem call_dictT (hu : X.A.units + 4 < cLine) : CallR X (.type "dict") (fun xs H Q => ∃ (a : Addr) (kvs : List (List Key × V)), xs = [.ref a] ∧ Rd H a (.dT kvs) ∧ (kvs.map fun q => (tupleKind (mixKind X.prog X.w)).hash q.1).Nodup ∧
    ∀ p, H p = none → Q (.ref p) (upd H p (.dT kvs))) := by
  intro pins s σ H xs us Q I r q
  obtain ⟨a, kvs, rfl, hd, hap, q⟩ := q
  obtain ⟨u, rfl, rx⟩ := vals1 r
  cases rx
  obtain ⟨z, lo, ps, rel, dd⟩ := dt_rd I.hok hd
  have sm : (s.heap.objs.size == sysModules) = false := beq_eq_false_iff_ne.mpr (Nat.ne_of_gt I.big)
  refine copyH (kd := tupleKind (mixKind X.prog X.w)) ?_ lo dd (by rw [← Paired.length rel]; exact z) (fun p hp => tup_is I.hok (kt_mem rel p hp)) ?_ (fun hp kp p hm => key_of (I.hok.kept kp) (kt_mem rel p hm)) fun hp d' hs => ?_
  · show X.A.in1.in1.units < cLine
    show X.A.units + 1 + 1 < cLine
    omega
  · have e : ps.map (fun p => (tupleKind (mixKind X.prog X.w)).hash p.1) = (ps.map (·.1)).map (tupleKind (mixKind X.prog X.w)).hash := by rw [List.map_map]; rfl
    rw [e, kt_keys rel, List.map_map]
    exact hap
  · obtain ⟨o, es, ep, h1, h2, h3, h4, _, h5⟩ := d'
    refine ⟨.ref s.heap.objs.size, upd H s.heap.objs.size (.dT kvs), I.laid (t' := s.toks) (fun b u e => (hs.2 b (Nat.ne_of_lt (Heap.lt_size e))).trans (Heap.get?_push_of_some _ e)) (Nat.le_refl _) ?_, rfl, q _ (I.hok.fresh (Nat.le_refl _))⟩
    refine ⟨z, sm, ps, rel.keeps fun b ys e => ?_, o, es, ep, h1, h2, h3, h4, h5⟩
    rw [upd_ne (ne_of_none e (I.hok.fresh (Nat.le_refl _)))]
    exact e
/-- pairs of numbers that stand -/
def IsPairs (H : Hp) : List Addr → List (Int × Int) → Prop := Paired fun b m => H b = some (.tup [.int m.1, .int m.2])
def pairAt (H : Hp) : Value → Int × Int
  | .ref b => match H b with
    | some (.tup [.int i, .int j]) => (i, j)
    | _ => (0, 0)
  | _ => (0, 0)
theorem pairAt_ref {H : Hp} {b : Addr} {i j : Int} (h : H b = some (.tup [.int i, .int j])) : pairAt H (.ref b) = (i, j) := by
  show (match H b with
    | some (.tup [.int i, .int j]) => (i, j)
    | _ => (0, 0)) = _
  rw [h]
theorem isPair_of {P : Program} {w : World} {H : Hp} {h : Heap} {b : Addr} {i j : Int} (ok : HOk P w H h) (e : H b = some (.tup [.int i, .int j])) : Srt.IsPair h (.ref b) i j := by
  obtain ⟨_, its, r, o, h1, h2, n, h3⟩ := (show ObjOk P w H h b (.tup [.int i, .int j]) from ok b _ e)
  obtain ⟨u1, u2, rfl, ⟨t1, rfl⟩, t2, rfl⟩ := vals2 r
  exact ⟨b, o, t1, t2, n, rfl, h1, h2, h3⟩
theorem out_pairs {H : Hp} : ∀ {out : List Value}, (∀ v ∈ out, ∃ (b : Addr) (i j : Int), v = .ref b ∧ H b = some (.tup [.int i, .int j])) → ∃ bs : List Addr, out = bs.map Value.ref ∧ IsPairs H bs (out.map (pairAt H))
  | [], _ => ⟨[], rfl, .nil⟩
  | v :: out, h => by
    obtain ⟨b, i, j, rfl, hb⟩ := h v List.mem_cons_self
    obtain ⟨bs, e, r⟩ := out_pairs (out := out) fun v hv => h v (List.mem_cons_of_mem _ hv)
    refine ⟨b :: bs, by rw [List.map_cons, e], ?_⟩
    have ep : pairAt H (.ref b) = (i, j) := pairAt_ref hb
    rw [List.map_cons, ep]
    exact .cons hb r
/-- sorted(d), its keys pairs of numbers -/
theorem call_sortedT (hc : X.calm = true) : CallR X (.builtin "sorted") (fun xs H Q => ∃ (a : Addr) (kvs : List (List Key × V)) (ks : List (Int × Int)), xs = [.ref a] ∧ Rd H a (.dT kvs) ∧ kvs.map (·.1) = ks.map (fun k => [Sum.inl k.1, Sum.inl k.2]) ∧
    ∀ (bs : List Addr) (ms : List (Int × Int)) (p : Addr), ms.Perm ks → SrtO.Srtd SrtO.lexB ms → IsPairs H bs ms → H p = none → Q (.ref p) (upd H p (.lst (bs.map V.ref)))) := by
  intro pins s σ H xs us Q I r q
  obtain ⟨a, kvs, ks, rfl, hd, hks, q⟩ := q
  obtain ⟨u, rfl, rx⟩ := vals1 r
  cases rx
  obtain ⟨z, lo, ps, rel, o, es, ep, ho, hx, hdt, he, his, hn⟩ := dt_rd I.hok hd
  have l1 : es.size = ps.length := size_of_entries he
  have l2 : kvs.length = ps.length := Paired.length rel
  have hpk : ps.map (·.1) = ks.map (fun k => [Sum.inl k.1, Sum.inl k.2]) := (kt_keys rel).trans hks
  have hpr : ∀ p ∈ ps, ∃ i j : Int, p.1 = [Sum.inl i, Sum.inl j] ∧ H p.2.1 = some (.tup [.int i, .int j]) := fun p hp => by
    have : p.1 ∈ ps.map (·.1) := List.mem_map.mpr ⟨p, hp, rfl⟩
    rw [hpk] at this
    obtain ⟨k, _, e⟩ := List.mem_map.mp this
    have hh := kt_mem rel p hp
    rw [← e] at hh
    exact ⟨k.1, k.2, e.symm, hh⟩
  refine Calls.call_function_entry PyProof.Rows.kind_sorted PyProof.Rows.plain_sorted PyProof.Rows.entry_sorted (PyProof.Rows.args_sorted1 _) ?_
  unfold Builtin.«sorted»
  refine wpAny_bind (m := checkCount "sorted" 1 1 _) (wpAny_pure ?_)
  refine wpAny_bind (PySem.W.kdu_collect (A := X.A.in1) (kdl_raw lo hx hdt) (I.ok.hd hc) ho (by omega) fun h' tk acc kp it => ?_)
  have ea : acc.toList = ps.map fun x => Value.ref x.2.1 := by
    have hl : acc.toList.length = ps.length := by rw [Array.length_toList, it.1]; exact l1
    apply List.ext_getElem?
    intro j
    rw [List.getElem?_map]
    cases hj : acc.toList[j]? with
    | none =>
      have h1 := List.getElem?_eq_none_iff.mp hj
      rw [List.getElem?_eq_none (by omega)]
      rfl
    | some v =>
      obtain ⟨en, hen, hv⟩ := it.2 j v (by rw [← Array.getElem?_toList]; exact hj)
      rw [entry_at he j] at hen
      cases hb : ps[j]? with
      | none => rw [hb] at hen; cases hen
      | some b =>
        rw [hb] at hen
        have e2 : entryOfKey (tupleKind (mixKind X.prog X.w)) b = en := Option.some.inj hen
        rw [hv, ← e2]
        rfl
  have I1 : Inv X pins σ H { s with heap := h', toks := tk } := I.kept kp
  have hmem : ∀ v ∈ acc.toList, ∃ (b : Addr) (i j : Int), v = .ref b ∧ H b = some (.tup [.int i, .int j]) := fun v hv => by
    rw [ea] at hv
    obtain ⟨p, hp, rfl⟩ := List.mem_map.mp hv
    obtain ⟨i, j, _, h2⟩ := hpr p hp
    exact ⟨_, i, j, rfl, h2⟩
  have hal : acc.toList.length ≤ sizeLine := by rw [ea, List.length_map]; omega
  have hpa : ∀ (hh : Heap), HOk X.prog X.w H hh → ∀ v ∈ acc.toList, Srt.IsPair hh v (pairAt H v).1 (pairAt H v).2 := fun hh ok v hv => by
    obtain ⟨b, i, j, rfl, hb⟩ := hmem v hv
    have ep : pairAt H (.ref b) = (i, j) := pairAt_ref hb
    rw [ep]
    exact isPair_of ok hb
  refine wpAny_bind (wpAny_newList ?_ hal)
  have hoL : (h'.push (seqObj "list" acc.toList.toArray 0)).get? h'.objs.size = some (seqObj "list" acc.toList.toArray 0) := Heap.get?_push_size _ rfl
  show wpAny _ _ _ _ _ { s with heap := h'.push (seqObj "list" acc.toList.toArray 0), toks := tk }
  have okL : HOk X.prog X.w H (h'.push (seqObj "list" acc.toList.toArray 0)) := I1.hok.kept fun b o e => Heap.get?_push_of_some _ e
  refine wpAny_bind (wpAny_holding (wpAny_call_entry slot_list_sort ⟨_, hoL, rfl⟩ entry_list_sort (SrtO.list_sort_ord (s := { s with heap := h'.push (seqObj "list" acc.toList.toArray 0), toks := tk }) (SrtO.swo_lex (pairAt H)) hoL hal
    (fun h2 => SrtO.pairs_sortableO (s := { s with heap := h'.push (seqObj "list" acc.toList.toArray 0), toks := tk }) (by omega) (hpa _ okL) fun o e c => ?_) fun out hs hb => ⟨_, rfl, ?_⟩) (args_list_sort _)))
  · rw [hoL] at e
    have e' := Option.some.inj e
    subst e'
    exact absurd (Value.type.inj c) (by decide)
  · obtain ⟨bs, eb, hbs⟩ := out_pairs (H := H) (out := out) fun v hv => hmem v (hb.perm.mem_iff.mp hv)
    obtain ⟨n, hn⟩ := sortedHeap_at (vs := acc.toList) (out := out.toArray) hoL
    have hperm : (out.map (pairAt H)).Perm ks := by
      refine (hb.perm.map (pairAt H)).trans (List.Perm.of_eq ?_)
      rw [ea, List.map_map]
      have : ∀ (l : List (List Key × Addr × Value)) (m : List (Int × Int)), (∀ p ∈ l, H p.2.1 = some (.tup (p.1.map kV))) → l.map (·.1) = m.map (fun k => [Sum.inl k.1, Sum.inl k.2]) → l.map (pairAt H ∘ fun x => Value.ref x.2.1) = m := by
        intro l
        induction l with
        | nil =>
          intro m _ e
          cases m with
          | nil => rfl
          | cons _ _ => cases e
        | cons p l ih =>
          intro m hm e
          cases m with
          | nil => cases e
          | cons k m =>
            rw [List.map_cons, List.map_cons] at e
            injection e with e1 e2
            have hp := hm p List.mem_cons_self
            rw [e1] at hp
            have ep : pairAt H (.ref p.2.1) = (k.1, k.2) := pairAt_ref hp
            rw [List.map_cons, ih m (fun p hp => hm p (List.mem_cons_of_mem _ hp)) e2]
            show pairAt H (.ref p.2.1) :: m = k :: m
            rw [ep]
      exact this ps ks (kt_mem rel) hpk
    have hlen : (bs.map V.ref).length ≤ sizeLine := by
      have : out.length = acc.toList.length := hb.perm.length_eq
      rw [List.length_map]
      have e3 : out.length = bs.length := by rw [eb, List.length_map]
      omega
    refine wpAny_pure ⟨_, rfl, .ref h'.objs.size, upd H h'.objs.size (.lst (bs.map V.ref)), I1.laid (t' := tk) (fun b u e => ?_) (Nat.le_refl _) ⟨hlen, out, n, by rw [eb]; exact vals_refs bs, hn⟩, rfl, q bs _ _ hperm (SrtO.srtd_map hs) hbs (I1.hok.fresh (Nat.le_refl _))⟩
    have hb' : b < h'.objs.size := Heap.lt_size e
    rw [sortedHeap_old (Nat.ne_of_lt hb') (by rw [size_push']; exact Nat.lt_succ_of_lt hb')]
    exact Heap.get?_push_of_some _ e
end
end AU

/-! AuTD2: dict comprehensions and displays whose keys are tuples, over the heap. -/
namespace AU
open PySem L2 PySem.Spec PyProof.Rows
/-! ### {k: v for ..} -/
section
variable {X : Cx}
/-- a pair stored by a comprehension, its key a tuple -/
theorem put_tup {pins : List (Addr × Obj)} {σ : L2.St} {H : Hp} {s : Shared} {Er : Value → Shared → Prop} {D b : Addr} {rows : List (List Key × V)} {key : List Key} {y : V} {uy : Value} {Qu : Unit → Shared → Prop} (room : X.A.units < cLine) (I : Inv X pins σ H s)
    (at_ : H D = some (.dT rows)) (few : rows.length < sizeLine) (tb : H b = some (.tup (key.map kV))) (ry : RelV y uy) (fin : ∀ s', Inv X pins σ (upd H D (.dT (putK rows key y))) s' → Qu () s') :
    wpAny (model X.prog X.w) X.A (dictSet D (.ref b) uy) Qu Er s := by
  obtain ⟨len, sm, ps, rel, dd⟩ := dt_of I.hok at_
  have few' : ps.length ≤ sizeLine := by rw [← Paired.length rel]; exact len
  refine wpAny_dictSet_heap (hsz := few') room (key_of I.hok tb) dd fun hp d' sb => fin _ ?_
  obtain ⟨o, es, ep, q1, q2, q3, q4, _, q5⟩ := d'
  have len' : (putK rows key y).length ≤ sizeLine := by have := length_putK rows key y; omega
  refine d_write I (by rw [at_]; exact True.intro) sb ⟨o, q1⟩ ⟨len', sm, _, (rel.put key tb ry).keeps fun c ys ec => ?_, o, es, ep, q1, q2, q3, q4, q5⟩
  rw [upd_ne (ne_of ec at_ (fun z => nomatch z))]
  exact ec
/-- the reading of a dict comprehension whose keys are tuples: D the new dict -/
def tDcT (wi : TI) (g : TG) (tt : TT) (tk tv : TE) (vs : List Nat) : TE := fun σ H Q => wi σ H fun J H1 => ∀ D, H1 D = none → ∃ Wh : Nat → Nat → Hp → Prop, (∃ m, Wh 0 m (upd H1 D (.dT []))) ∧ ∀ i m H, Wh i m H →
  (J.stop i H ∧ Q (.ref D) H) ∨ (J.go i H ∧ ∃ Nx : Hp → Prop, (∀ H', Nx H' → ∃ m', m' < m ∧ Wh (i + 1) m' H') ∧ ∀ x H', J.yld i H x H' → g x (L2.wipe σ vs) H' fun σ2 H2 => L2.wipe σ2 vs = L2.wipe σ vs ∧ tt σ2 H2 fun ok H3 =>
    if ok = true then tk σ2 H3 fun y H4 => tv σ2 H4 fun z H5 => ∃ rows key b, y = .ref b ∧ H5 b = some (.tup (List.map kV key)) ∧ H5 D = some (.dT rows) ∧ rows.length < sizeLine ∧ Nx (upd H5 D (.dT (putK rows key z))) else Nx H3)
theorem pe_dcT {kx vx tg iter : Expr} {ifs : List Expr} {scope : Scope} {own : List (Str × Nat)} {pos : Pos} {wi : TI} {g : TG} {tt : TT} {tk tv : TE} (room : X.A.units < cLine) (calm : X.calm = true) (nd : X.N.Nodup) (hi : PI X tg iter wi) (ok : BlkOk X.N X.env.scope scope own)
    (hg : ∀ (s : Shared) (H : Hp) (C : Addr) (cl : List (Str × Addr)) (fp : List Addr), PG (X.blk s H scope (compEnvC scope cl C X.env) fp) tg g)
    (ht : ∀ (s : Shared) (H : Hp) (C : Addr) (cl : List (Str × Addr)) (fp : List Addr), PTs (X.blk s H scope (compEnvC scope cl C X.env) fp) ifs tt)
    (hk : ∀ (s : Shared) (H : Hp) (C : Addr) (cl : List (Str × Addr)) (fp : List Addr), PE (X.blk s H scope (compEnvC scope cl C X.env) fp) kx tk)
    (hv : ∀ (s : Shared) (H : Hp) (C : Addr) (cl : List (Str × Addr)) (fp : List Addr), PE (X.blk s H scope (compEnvC scope cl C X.env) fp) vx tv)
    (plain : ∀ x, foldedSetIterable iter X.env x = pure x := by intro _; rfl) : PE X (.DictComp kx vx [⟨tg, iter, ifs, 0⟩] scope pos) (tDcT wi g tt tk tv (own.map (·.2))) := by
  refine ⟨fun pins s σ H Q I q => ?_⟩
  rw [arm_eval_DictComp]
  have frees : ∀ y ∈ scope.names, y.2 = .free → ∃ c, X.env.cells.lookup y.1 = some c := fun y hy e => (ok.free y hy e).elim (fun z => I.ok.has _ (.inl z)) fun z => I.ok.has _ (.inr z)
  -- what is walked, and the dict's place
  refine wpAny_comprehension_free (use := none) rfl plain (closure_ok frees) ok.kind (fun y hy e => by rw [ok.uniq y hy, e]) (thn (hi.run pins s σ H _ I q) fun xv s1 h1 => thn h1 fun iv s2 h2 => ?_)
  obtain ⟨it, fp, tn, J, H2, rfl, I2, T, st2, f2, q2⟩ := h2
  refine wpAny_newObj_type (newEnv_comp ?_)
  obtain ⟨D, eD⟩ : ∃ D, s2.heap.objs.size = D := ⟨_, rfl⟩
  rw [eD]
  have free : H2 D = none := I2.hok.fresh (Nat.le_of_eq eD)
  obtain ⟨Wh, ⟨m0, w0⟩, turn⟩ := q2 D free
  obtain ⟨s3, e3⟩ : ∃ s3 : Shared, ({ s2 with heap := s2.heap.push { cls := .type "dict", data := .dict #[] } } : Shared) = s3 := ⟨_, rfl⟩
  have I3 : Inv X pins σ (upd H2 D (.dT [])) s3 := by
    rw [← e3]
    refine I2.laid (t' := s2.toks) (fun b o e => Heap.get?_push_of_some _ e) (Nat.le_of_eq eD) ?_
    rw [← eD]
    exact dt_empty s2.heap I2.big
  have old3 : ∀ b o, s2.heap.get? b = some o → s3.heap.get? b = some o := fun b o e => by rw [← e3]; exact Heap.get?_push_of_some _ e
  have low : ∀ b ∈ fp, b < D := fun b hb => by
    obtain ⟨o, e, _⟩ := T.obj _ _ st2 b hb
    rw [← eD]
    exact Heap.lt_size e
  have size3 : s3.heap.objs.size = D + 1 := by rw [← e3, ← eD]; exact Heap.size_push _ _
  have f3 : ∀ b ∈ fp, FpOk X pins (upd H2 D (.dT [])) b ∧ b < s3.heap.objs.size := fun b hb => by
    refine ⟨⟨?_, (f2 b hb).2⟩, by rw [size3]; exact Nat.lt_succ_of_lt (low b hb)⟩
    rw [upd_ne (Nat.ne_of_lt (low b hb))]
    exact (f2 b hb).1
  have st3 : tn 0 s3.heap := T.keep _ _ _ st2 fun b _ o e => old3 b o e
  -- the block
  have I4 := block_start I3 ok nd f3
  obtain ⟨cl, ecl⟩ : ∃ cl, cellsFrom (s3.heap.objs.size + 1) scope.names (cloFrom X.env.cells scope.names []) = cl := ⟨_, rfl⟩
  rw [ecl] at I4
  have rg := hg s3 (upd H2 D (.dT [])) s3.heap.objs.size cl fp
  have rt := ht s3 (upd H2 D (.dT [])) s3.heap.objs.size cl fp
  have rk := hk s3 (upd H2 D (.dT [])) s3.heap.objs.size cl fp
  have rv := hv s3 (upd H2 D (.dT [])) s3.heap.objs.size cl fp
  rw [e3]
  show codeAny _ _ (.compStart (.DictComp kx vx [⟨tg, iter, ifs, 0⟩] scope pos) 0 (.ref it) (.ref D) (compEnvC scope (cellsFrom (s3.heap.objs.size + 1) scope.names (cloFrom X.env.cells scope.names [])) s3.heap.objs.size X.env)) (compPost (model X.prog X.w) X.A X.xe none _ (.ref D) s3.heap.objs.size) { s3 with heap := pushCells (s3.heap.push { cls := .type "dict", data := .dict #[] }) scope.names }
  rw [ecl]
  have none3 : ∀ b ∈ fp, (upd H2 D (.dT [])) b = none := fun b hb => (f3 b hb).1.1
  obtain ⟨ev, eev⟩ : ∃ ev, compEnvC scope cl s3.heap.objs.size X.env = ev := ⟨_, rfl⟩
  rw [eev] at I4 rg rt rk rv ⊢
  have loc : ev.locals = s3.heap.objs.size := by rw [← eev]; rfl
  obtain ⟨H3, eH3⟩ : ∃ H3, upd H2 D (.dT []) = H3 := ⟨_, rfl⟩
  rw [eH3] at I3 I4 rg rt rk rv w0 none3 f3
  obtain ⟨s4, e4⟩ : ∃ s4 : Shared, ({ s3 with heap := pushCells (s3.heap.push { cls := .type "dict", data := .dict #[] }) scope.names } : Shared) = s4 := ⟨_, rfl⟩
  rw [e4] at I4 ⊢
  have st4 : tn 0 s4.heap := T.keep _ _ _ st3 fun b _ o e => by rw [← e4]; exact pushCells_keeps _ _ _ _ (Heap.get?_push_of_some _ e)
  have still : ∀ {τ : L2.St} {G : Hp} {t : Shared}, Inv (X.blk s3 H3 scope ev fp) [] τ G t → (∀ b ∈ fp, G b = none) → ∀ b ∈ fp, FpOk (X.blk s3 H3 scope ev fp) [] G b := fun {τ G t} J' n b hb =>
    ⟨n b hb, (J'.ok.exf b hb).1, J'.ok.exfs b hb, .inl hb, fun x c e => (J'.ok.exf b hb).2 x c e, fun p hp => absurd (show p ∈ ([] : List (Addr × Obj)) ++ [] from hp) (by simp)⟩
  -- the turns
  have loop : codeAny (model X.prog X.w) X.A (.compLoop (.DictComp kx vx [⟨tg, iter, ifs, 0⟩] scope pos) 0 (.ref it) (.ref D) ev) (compPost (model X.prog X.w) X.A X.xe none (fun v s' => ∃ x H', Inv X pins σ H' s' ∧ RelV x v ∧ Q x H') (.ref D) s3.heap.objs.size) s4 := by
    refine compLoop_anyD (fun n t => ∃ i G, Inv (X.blk s3 H3 scope ev fp) [] (L2.wipe σ (own.map (·.2))) G t ∧ tn i t.heap ∧ (∀ b ∈ fp, G b = none) ∧ Wh i n G) ?_ m0 ⟨0, H3, I4, st4, none3, w0⟩
    rintro n t ⟨i, G, J1, stt, nn, wh⟩
    rcases turn i n G wh with ⟨stop, fin⟩ | ⟨go, Nx, next, step⟩
    · refine thnF (T.done (X.blk s3 H3 scope ev fp) rfl rfl rfl calm i [] t _ G (fun _ _ => False) J1 (still J1 nn) stt stop) fun r t2 ⟨er, J2⟩ => ?_
      subst er
      have back : Inv X pins σ G t2 := I3.call' (ch := fp) J2.os J2.base J2.hok J2.bare fun b hb => ⟨(f3 b hb).1.2.2.2.1, (f3 b hb).1.2.1, (f3 b hb).1.2.2.2.2.1, (f3 b hb).1.2.2.2.2.2⟩
      have nC : G s3.heap.objs.size = none := by
        have z : G ev.locals = none := J2.free
        rwa [loc] at z
      obtain ⟨mm, hn, _⟩ := J2.loc
      have hn : t2.heap.Ns ev.locals mm := hn
      rw [loc] at hn
      obtain ⟨z0, z1, z2, z3, z4, z5⟩ := I3.fpOk (Nat.le_refl _) nC
      exact ⟨mm, hn, fun hp sb => ⟨.ref D, G, back.turned (t' := t2.toks) (fun b o hb e => (sb.2 b hb).trans e) z0 z1 z3 z4 z5, rfl, fin⟩⟩
    · refine thnF (T.item (X.blk s3 H3 scope ev fp) rfl rfl rfl calm i [] t _ G (fun _ _ => False) J1 (still J1 nn) stt go) fun r t2 ⟨u, er, h2⟩ => ?_
      subst er
      refine thnF h2 fun _ t3 ⟨x, G3, J3, r3, y3, stt3, nn3⟩ => ?_
      have J3p := J3.pinned (still J3 nn3) (T.obj _ _ stt3)
      refine thnF (rg.run _ t3 _ G3 x u _ J3p r3 (step x G3 y3)) fun _ t4 ⟨σ4, G4, J4, wp, q4⟩ => ?_
      refine thnF (rt.run _ t4 σ4 G4 _ J4 q4) fun yes t5 ⟨G5, J5, q5⟩ => ?_
      have ends : ∀ {t' : Shared} {G' : Hp}, Inv (X.blk s3 H3 scope ev fp) ([] ++ pinsAt fp t3.heap) σ4 G' t' → Nx G' → ∃ m, m < n ∧ ∃ i G, Inv (X.blk s3 H3 scope ev fp) [] (L2.wipe σ (own.map (·.2))) G t' ∧ tn i t'.heap ∧ (∀ b ∈ fp, G b = none) ∧ Wh i m G := fun {t' G'} J' nx => by
        obtain ⟨m', lt, wh'⟩ := next G' nx
        have pn : ∀ b ∈ fp, ∀ o, t3.heap.get? b = some o → t'.heap.get? b = some o ∧ G' b = none := fun b hb o e =>
          have z := J'.pin (b, o) (List.mem_append_right _ (List.mem_append_right _ (mem_pinsAt hb e)))
          ⟨z.1, z.2.1⟩
        have ll : (L2.wipe σ (own.map (·.2))).length = σ4.length := by rw [← wp, wipe_length]
        refine ⟨m', lt, i + 1, G', (J'.unpinned (pins := [])).weak ll (fun j v e => (wipe_some (by rw [wp]; exact e)).1), T.keep _ _ _ stt3 fun b hb o e => (pn b hb o e).1, fun b hb => ?_, wh'⟩
        obtain ⟨o, e, _⟩ := T.obj _ _ stt3 b hb
        exact (pn b hb o e).2
      cases yes with
      | false =>
        simp only [Bool.false_eq_true, if_false] at q5 ⊢
        exact ends J5 q5
      | true =>
        simp only [if_true] at q5 ⊢
        refine thnF (rk.run _ t5 σ4 G5 _ J5 q5) fun kv t6 ⟨yk, G6, J6, r6, q6⟩ => ?_
        refine thnF (rv.run _ t6 σ4 G6 _ J6 q6) fun vv t7 ⟨yv, G7, J7, r7, rows, key, b, ek, hb, hD, few, nx⟩ => ?_
        subst ek
        cases (show kv = Value.ref b from r6)
        exact put_tup (X := X.blk s3 H3 scope ev fp) room J7 hD few hb r7 fun t8 J8 => ends J8 nx
  exact codeAny_compStart_dict loop (T.self X.A 0 _ _ _ st4 loop)
end

/-! ### {(1, 0): v, ..} -/
def mergeTK (kvs more : List (List Key × V)) : List (List Key × V) := more.foldl (fun acc kv => putK acc kv.1 kv.2) kvs
theorem kt_merge {H : Hp} : ∀ {more : List (List Key × V)} {rs : List (List Key × Addr × Value)} {kvs : List (List Key × V)} {ps : List (List Key × Addr × Value)}, KT H more rs → KT H kvs ps → KT H (mergeTK kvs more) (storedAllH ps rs)
  | [], _, _, _, .nil, s => s
  | m :: more, r :: rs, kvs, ps, .cons h t, s => by
    have e : storedAllH ps (r :: rs) = storedAllH (storedH ps r.1 r.2.1 r.2.2) rs := rfl
    rw [e, ← h.1]
    exact kt_merge (kvs := putK kvs m.1 m.2) t (s.put m.1 h.2.1 h.2.2)
theorem len_mergeTK : ∀ (more kvs : List (List Key × V)), (mergeTK kvs more).length ≤ kvs.length + more.length
  | [], kvs => Nat.le_refl _
  | p :: r, kvs => by
    have h1 := len_mergeTK r (putK kvs p.1 p.2)
    have h2 := length_putK kvs p.1 p.2
    show (mergeTK (putK kvs p.1 p.2) r).length ≤ _
    rw [List.length_cons]; omega
theorem carry_tup {P : Program} {w : World} {H : Hp} {h : Heap} (ok : HOk P w H h) : ∀ {l : List (List Key × Addr × V)} {ws : List (Value × Value)}, (∀ p ∈ l, H p.2.1 = some (.tup (p.1.map kV))) → VV (l.map fun p => (V.ref p.2.1, p.2.2)) ws →
    ∃ rs, CarriesH (tupleKind (mixKind P w)) h ws rs ∧ KT H (l.map fun p => (p.1, p.2.2)) rs
  | [], _, _, r => by rw [List.map_nil] at r; cases r; exact ⟨[], True.intro, .nil⟩
  | p :: l, _, hm, r => by
    rw [List.map_cons] at r
    cases r with
    | @cons a b as bs h t =>
      obtain ⟨rs, c, q⟩ := carry_tup ok (l := l) (fun p hp => hm p (List.mem_cons_of_mem _ hp)) t
      obtain ⟨b1, b2⟩ := b
      obtain ⟨h1, h2⟩ := h
      cases (show b1 = Value.ref p.2.1 from h1)
      exact ⟨(p.1, p.2.1, b2) :: rs, ⟨rfl, rfl, key_of ok (hm p List.mem_cons_self), c⟩, .cons ⟨rfl, hm p List.mem_cons_self, h2⟩ q⟩
def tDispT (trs : List (TE × TE)) : TE := fun σ H Q => ∀ p, H p = none → tPairs trs σ (upd H p (.dT [])) fun ps H2 => H2 p = some (.dT []) ∧ ∃ l : List (List Key × Addr × V), ps = l.map (fun q => (V.ref q.2.1, q.2.2)) ∧ (∀ q ∈ l, H2 q.2.1 = some (.tup (q.1.map kV))) ∧ l.length ≤ 15 ∧
  Q (.ref p) (upd H2 p (.dT (mergeTK [] (l.map fun q => (q.1, q.2.2)))))
theorem pe_dispT {X : Cx} {pos : Pos} {keys : List (Option Expr)} {values : List Expr} {trs : List (TE × TE)} (room : X.A.units + 1 < cLine) (h : PPs X pos keys values trs) (hall : keys.all (·.isSome) = true) (hl : keys.length = values.length) (h0 : keys ≠ [])
    (h15 : keys.length ≤ 15) : PE X (.Dict keys values pos) (tDispT trs) := by
  refine ⟨fun pins s σ H Q I q => ?_⟩
  have free := I.hok.fresh (Nat.le_refl s.heap.objs.size)
  have I1 := I.laid (a := s.heap.objs.size) (o := .dT []) (h' := s.heap.push { cls := .type "dict", data := .dict #[] }) (t' := s.toks) (fun _ _ q => Heap.get?_push_of_some _ q) (Nat.le_refl _) (dt_empty s.heap I.big)
  have hn := pairTrees_length keys values X.env pos hall hl
  rw [arm_eval_Dict, zip_pairTrees keys values X.env pos hall hl, dictDisplay_pairs (pairTrees keys values X.env pos) (fun e => h0 (List.length_eq_zero_iff.mp (by rw [← hn, e]; rfl))) (by omega)]
  refine wpAny_bind (wpAny_standAt (wpAny_bind (wpAny_subDictH (knd := tupleKind (mixKind X.prog X.w)) (Q := fun d s' => wpAny (model X.prog X.w) X.A (pure (Value.ref d)) (fun v s' => ∃ x H', Inv X pins σ H' s' ∧ RelV x v ∧ Q x H') X.xe s') (show X.A.units < cLine by omega) (by rw [hn]; exact h15) ?_)))
  refine thn (h.run pins _ σ _ _ I1 (q _ free)) fun ws s2 ⟨ps, H2, I2, rel, e, l, ep, hm, few, q2⟩ => ?_
  subst ep
  obtain ⟨rs, c, rk⟩ := carry_tup I2.hok hm rel
  obtain ⟨_, sm, ps0, r0, dd⟩ := dt_of I2.hok e
  cases r0
  refine ⟨rs, c, dd, fun hp tk d' sb => wpAny_pure ⟨.ref s.heap.objs.size, _, ?_, rfl, q2⟩⟩
  have len : (mergeTK [] (l.map fun q => (q.1, q.2.2))).length ≤ sizeLine := by
    have h1 := len_mergeTK (l.map fun q => (q.1, q.2.2)) []
    rw [List.length_map, List.length_nil] at h1
    rw [sizeLine_eq]; omega
  obtain ⟨o, es, ep, q1, q2', q3, q4, _, q5⟩ := d'
  refine d_write I2 (by rw [e]; exact True.intro) sb ⟨o, q1⟩ ⟨len, sm, _, (kt_merge rk .nil).keeps fun c ys ec => ?_, o, es, ep, q1, q2', q3, q4, q5⟩
  rw [upd_ne (ne_of ec e (fun z => nomatch z))]
  exact ec
end AU

/-! AuTD3: over data: comprehensions over dicts, dict comprehensions whose keys are tuples of numbers. -/
namespace AU
open PySem L2 PySem.Spec PyProof.Rows
/-! ### where a dict is found without a step: a name, a name's top -/
def Pth (X : Cx) (e : Expr) (f : Rho → Option D) : Prop := ∃ te : TE, PE X e te ∧ ∀ (g0 g : Gh) (ρ : Rho) (σ : L2.St) (x : D), Step g0 g → EnvOk X.K g0 g ρ σ → f ρ = some x → ∃ v, Rep X.K g v x ∧
  ∀ (g1 g' : Gh), EnvOk X.K g1 g' ρ σ → Hold g' → (∀ b o, g.G b = some o → g'.G b = some o) → ∀ Q : VK, Q v g'.H → te σ g'.H Q
@[simp] def pV (i : Nat) : Rho → Option D := fun ρ => match ρ[i]? with
  | some (.fz x) => some x
  | _ => none
@[simp] def pTop (i : Nat) : Rho → Option D := fun ρ => match ρ[i]? with
  | some (.fz (.ch tp _)) => some (termsD tp)
  | _ => none
section
variable {X : Cx} {W : WX} {pos : Pos}
theorem pth_v (i : Nat) {x : Str} (hN : X.N[i]? = some x := by rfl) (hv : Vis X.env.scope x := by first | exact Or.inl rfl | exact Or.inr (Or.inl rfl) | exact Or.inr (Or.inr rfl))
    (hd : (x == ("__debug__" : Str)) = false := by decide) (hcd : (x == ("__classdict__" : Str)) = false := by decide) : Pth X (.Name x pos) (pV i) := by
  refine ⟨_, pe_var hN hv hd hcd, fun g0 g ρ σ x s0 e h => ?_⟩
  unfold pV at h
  split at h
  · rename_i d hd
    cases h
    obtain ⟨v, h1, h2⟩ := e.fz i _ hd
    exact ⟨v, h2, fun g1 g' e' ok up Q q => ⟨v, h1, q⟩⟩
  · cases h
theorem pth_top (i : Nat) {x : Str} {p2 : Pos} (T : ChK X.K X.mg) (hN : X.N[i]? = some x := by rfl) (hv : Vis X.env.scope x := by first | exact Or.inl rfl | exact Or.inr (Or.inl rfl) | exact Or.inr (Or.inr rfl))
    (hd : (x == ("__debug__" : Str)) = false := by decide) (hcd : (x == ("__classdict__" : Str)) = false := by decide) (hb : attributeBase (.Name x pos) "top" X.env (eval (.Name x pos) X.env) = eval (.Name x pos) X.env := by rfl) : Pth X (.Attribute (.Name x pos) "top" p2) (pTop i) := by
  refine ⟨_, pe_fld (pe_var hN hv hd hcd) hb, fun g0 g ρ σ x s0 e h => ?_⟩
  unfold pTop at h
  split at h
  · rename_i tp bt hd
    cases h
    obtain ⟨v, h1, h2⟩ := e.fz i _ hd
    cases h2 with
    | ch ga gt gb => exact ⟨_, .dT gt (repT_ints _), fun g1 g' e' ok up Q q => ⟨_, h1, _, _, _, _, _, rfl, ok.ins (up _ _ ga), T.cl, T.nt, chF_top _ _, q⟩⟩
  · cases h
end
/-! ### [e for k in d if t] -/
@[simp] def dLcP (f : Rho → Option D) (gt : DG) (tc : DB) (te : DT) (sl : List Nat) : DT := fun ρ P _ => match f ρ with
  | some x => keysD (fun ds => lcN gt tc te (wipeD ρ sl) ds [] fun acc => P (.lst acc)) x
  | none => False
section
variable {X : Cx} {W : WX} {g0 g : Gh} {σ : L2.St} {ρ : Rho}
theorem notM_of (s0 : Step g0 g) {d : Addr} {u : HO} (hG : g.G d = some u) : d ∉ g.M := fun z => by
  have := s0.ok.dis d z
  rw [hG] at this; cases this
/-- the keys of the dict x at v, as they are walked: once locked, once as it is -/
theorem keys_walk {te : TE} {v : V} {x : D} {P : List D → Prop} {Q : VK} (s0 : Step g0 g) (e : EnvOk X.K g0 g ρ σ) (r : Rep X.K g v x)
    (look : ∀ (g1 g' : Gh), EnvOk X.K g1 g' ρ σ → Hold g' → (∀ b o, g.G b = some o → g'.G b = some o) → ∀ Q : VK, Q v g'.H → te σ g'.H Q) (h : keysD P x) (Rr : VK → It → Hp → Prop)
    (body : ∀ (gb g1 : Gh) (J : It) (ds : List D) (Qd : VK), P ds → Step gb g1 → EnvOk X.K gb g1 ρ σ → Yields X.K J gb ds →
      (∀ (v : V) (g3 : Gh), Step g1 g3 → (∀ g', Step g g' → (∀ b o, g3.G b = some o → g'.G b = some o) → (∀ b ∈ g3.M, b ∈ g'.M) → Q v g'.H) → Qd v g3.H) → Rr Qd J g1.H) :
    (∃ d u, g.H d = some u ∧ Mut (some u) ∧ ∀ od, iKeys te σ (upd g.H d (.frz od u)) (Rr fun v H' => H' d = some (.frz od u) ∧ Q v (upd H' d u))) ∨ iKeys te σ g.H (Rr Q) := by
  have unl : ∀ {d : Addr} {u : HO} {od : Obj}, g.G d = some u → g.H d = some u → ∀ (v : V) (g3 : Gh), Step (g.own d (.frz od u)) g3 → (∀ g', Step g g' → (∀ b o, g3.G b = some o → g'.G b = some o) → (∀ b ∈ g3.M, b ∈ g'.M) → Q v g'.H) → g3.H d = some (.frz od u) ∧ Q v (upd g3.H d u) :=
    fun {d u od} hG hH v g3 s3 q => by
      obtain ⟨z1, z2⟩ := unlock_step (Step.refl s0.ok) hG hH s3
      exact ⟨z1, q (g3.own d u) z2 (fun _ _ h => h) fun _ h => h⟩
  cases r with
  | @dS d vs kvs hG rs =>
    rcases s0.ok.le _ _ hG with hH | ⟨_, od, hH⟩
    · refine .inl ⟨d, .dK vs, hH, trivial, fun od => ?_⟩
      have s1 := lock_step (od := od) s0 hG trivial
      have e1 := lock_env (od := od) e hG
      refine look _ (g.own d (.frz od (.dK vs))) e1 s1.ok (fun _ _ h => h) _ ⟨d, od, rfl, .inl ⟨vs, upd_same, ?_⟩⟩
      exact body (g0.lk g d (.frz od (.dK vs))) (g.own d (.frz od (.dK vs))) _ _ _ h s1 e1 (yields_keyS (gb := g0.lk g d (.frz od (.dK vs))) upd_same (notM_of s0 hG) (RepK.up (g := g) (g' := g0.lk g d (.frz od (.dK vs))) (fun _ _ h => h) (fun _ h => h) rs)) (unl hG hH)
    · have s1 := lock_step (od := od) s0 hG trivial
      have e1 := lock_env (od := od) e hG
      rw [own_same hH] at s1 e1
      refine .inr (look _ g e s0.ok (fun _ _ h => h) _ ⟨d, od, rfl, .inl ⟨vs, hH, ?_⟩⟩)
      exact body (g0.lk g d (.frz od (.dK vs))) g _ _ Q h s1 e1 (yields_keyS (gb := g0.lk g d (.frz od (.dK vs))) upd_same (notM_of s0 hG) (RepK.up (g := g) (g' := g0.lk g d (.frz od (.dK vs))) (fun _ _ h => h) (fun _ h => h) rs)) (fun v g3 s3 q => q g3 s3 (fun _ _ h => h) fun _ h => h)
  | @dT d vs kvs hG rs =>
    rcases s0.ok.le _ _ hG with hH | ⟨_, od, hH⟩
    · refine .inl ⟨d, .dT vs, hH, trivial, fun od => ?_⟩
      have s1 := lock_step (od := od) s0 hG trivial
      have e1 := lock_env (od := od) e hG
      refine look _ (g.own d (.frz od (.dT vs))) e1 s1.ok (fun _ _ h => h) _ ⟨d, od, rfl, .inr ⟨vs, upd_same, ?_⟩⟩
      exact body (g0.lk g d (.frz od (.dT vs))) (g.own d (.frz od (.dT vs))) _ _ _ h s1 e1 (yields_keyT (gb := g0.lk g d (.frz od (.dT vs))) upd_same (notM_of s0 hG) (RepT.up (g := g) (g' := g0.lk g d (.frz od (.dT vs))) (fun _ _ h => h) (fun _ h => h) rs)) (unl hG hH)
    · have s1 := lock_step (od := od) s0 hG trivial
      have e1 := lock_env (od := od) e hG
      rw [own_same hH] at s1 e1
      refine .inr (look _ g e s0.ok (fun _ _ h => h) _ ⟨d, od, rfl, .inr ⟨vs, hH, ?_⟩⟩)
      exact body (g0.lk g d (.frz od (.dT vs))) g _ _ Q h s1 e1 (yields_keyT (gb := g0.lk g d (.frz od (.dT vs))) upd_same (notM_of s0 hG) (RepT.up (g := g) (g' := g0.lk g d (.frz od (.dT vs))) (fun _ _ h => h) (fun _ h => h) rs)) (fun v g3 s3 q => q g3 s3 (fun _ _ h => h) fun _ h => h)
  | _ => exact h.elim
/-- .. by a list comprehension -/
theorem lcP_read {te : TE} {f : Rho → Option D} {gt : DG} {tc : DB} {tl : DT} {sl : List Nat} {P : D → Prop} {Q : VK} {v : V} {x : D} (s0 : Step g0 g) (e : EnvOk X.K g0 g ρ σ) (r : Rep X.K g v x)
    (look : ∀ (g1 g' : Gh), EnvOk X.K g1 g' ρ σ → Hold g' → (∀ b o, g.G b = some o → g'.G b = some o) → ∀ Q : VK, Q v g'.H → te σ g'.H Q) (h : keysD (fun ds => lcN gt tc tl (wipeD ρ sl) ds [] fun acc => P (.lst acc)) x)
    (q : ∀ d, P d → ∀ v g', Step g g' → Rep X.K g' v d → Q v g'.H) :
    tLockE (tLc (iKeys te) (fun v σ H Q => ∃ gb, liftG X.K gb sl gt v σ H Q) (fun σ H Q => ∃ gb, liftB X.K noW gb tc σ H Q) (fun σ H Q => ∃ gb, lift X.K noW gb tl σ H Q) sl) σ g.H Q ∨
    tLc (iKeys te) (fun v σ H Q => ∃ gb, liftG X.K gb sl gt v σ H Q) (fun σ H Q => ∃ gb, liftB X.K noW gb tc σ H Q) (fun σ H Q => ∃ gb, lift X.K noW gb tl σ H Q) sl σ g.H Q := by
  refine keys_walk s0 e r look h (fun Q J H1 => ∀ D, H1 D = none → ∃ Wh : Nat → Nat → Hp → Prop, (∃ m, Wh 0 m (upd H1 D (.lst []))) ∧ ∀ i m H, Wh i m H → (J.stop i H ∧ Q (.ref D) H) ∨ (J.go i H ∧ ∃ Nx : Hp → Prop, (∀ H', Nx H' → ∃ m', m' < m ∧ Wh (i + 1) m' H') ∧
    ∀ x H', J.yld i H x H' → (∃ gb, liftG X.K gb sl gt x (L2.wipe σ sl) H' fun σ2 H2 => L2.wipe σ2 sl = L2.wipe σ sl ∧ ∃ gb, liftB X.K noW gb tc σ2 H2 fun b H3 =>
      if b = true then ∃ gb, lift X.K noW gb tl σ2 H3 fun y H4 => ∃ acc, H4 D = some (.lst acc) ∧ acc.length < sizeLine ∧ Nx (upd H4 D (.lst (acc ++ [y]))) else Nx H3))) ?_
  intro gb g1 J ds Qd hd s1 e1 y1 fin D hD
  have hq : ∀ vs acc g', LcI X.K g1 D vs acc g' → P (.lst acc) → Qd (.ref D) g'.H := fun vs acc g' i hp => by
    obtain ⟨g'', eh, s', r', _⟩ := (i.toOwn (Step.refl s1.ok) hD).freeze i.st
    rw [← eh]
    refine fin _ g'' s' fun gF sF up um => ?_
    exact q _ hp _ gF sF (r'.up up um)
  exact lc_main (Qd := Qd (.ref D)) s1 (e1.wipe sl) y1 hD hd hq (wipe_wipe σ sl)
variable {elt tg it : Expr} {ifs : List Expr} {scope : Scope} {own : List (Str × Nat)} {pos spos py : Pos} {f : Rho → Option D} {gt : DG} {tc : DB} {te : DT} {k : Nat}
theorem de_lcP (C : Cn X W k) (hp : Pth X it f) (ok : BlkOk X.N X.env.scope scope own) (b : LcB X k scope own tg ifs elt gt tc te) (hs : ∀ x, foldedSetIterable it X.env x = pure x := by intro _; rfl) :
    DE X W g0 (.ListComp elt [⟨tg, it, ifs, 0⟩] scope pos) (dLcP f gt tc te (own.map (·.2))) := by
  obtain ⟨tp, hpe, look⟩ := hp
  have F := pe_lc (pos := pos) (g := fun v σ H Q => ∃ gb, liftG X.K gb (own.map (·.2)) gt v σ H Q) (tt := fun σ H Q => ∃ gb, liftB X.K noW gb tc σ H Q) (te := fun σ H Q => ∃ gb, lift X.K noW gb te σ H Q) C.cm C.nd (pi_keys (tg := tg) hpe) ok
    (fun s H Ca cl fp => ⟨fun pins s' σ H v u Q I r ⟨gb, w⟩ => ((b.bk s _ Ca cl fp (C.blk s _ scope Ca cl fp) gb).1).run pins s' σ H v u Q I r w⟩)
    (fun s H Ca cl fp => ⟨fun pins s' σ H Q I ⟨gb, w⟩ => ((b.bk s _ Ca cl fp (C.blk s _ scope Ca cl fp) gb).2.1).run pins s' σ H Q I w⟩)
    (fun s H Ca cl fp => ⟨fun pins s' σ H Q I ⟨gb, w⟩ => ((b.bk s _ Ca cl fp (C.blk s _ scope Ca cl fp) gb).2.2).run pins s' σ H Q I w⟩) hs
  refine PE.imp (PE.or (pe_lock F) F) fun σ H Q h => ?_
  obtain ⟨g, ρ, P, Ex, rfl, s0, e, w, q, x⟩ := h
  unfold dLcP at w
  split at w
  · rename_i x hx
    obtain ⟨v, r, lk⟩ := look g0 g ρ σ x s0 e hx
    exact lcP_read (f := f) s0 e r lk w q
  · exact w.elim
/-- x = [..] on one line -/
theorem dp_setLcP (i : Nat) {x : Str} (C : Cn X W k) (hp : Pth X it f) (ok : BlkOk X.N X.env.scope scope own) (b : LcB X k scope own tg ifs elt gt tc te) (hN : X.N[i]? = some x := by rfl) (hyl : X.env.scope.names.lookup x = some .local := by rfl)
    (hsw : swapsWith (.ListComp elt [⟨tg, it, ifs, 0⟩] scope pos) (some (.Name x py)) spos.line X.env = pure true := by exact sw_true rfl rfl rfl (by decide +kernel)) (hs : ∀ x, foldedSetIterable it X.env x = pure x := by intro _; rfl) :
    DP X W g0 (.Assign [.Name x py] (.ListComp elt [⟨tg, it, ifs, 0⟩] scope pos) spos) (dSet i (dLcP f gt tc te (own.map (·.2)))) := by
  obtain ⟨tp, hpe, look⟩ := hp
  have F := ps_setLc (pos := pos) (spos := spos) (py := py) (g := fun v σ H Q => ∃ gb, liftG X.K gb (own.map (·.2)) gt v σ H Q) (tt := fun σ H Q => ∃ gb, liftB X.K noW gb tc σ H Q) (te := fun σ H Q => ∃ gb, lift X.K noW gb te σ H Q) C.cm C.nd hN hyl hsw (pi_keys (tg := tg) hpe) ok
    (fun s H Ca cl fp => ⟨fun pins s' σ H v u Q I r ⟨gb, w⟩ => ((b.bk s _ Ca cl fp (C.blk s _ scope Ca cl fp) gb).1).run pins s' σ H v u Q I r w⟩)
    (fun s H Ca cl fp => ⟨fun pins s' σ H Q I ⟨gb, w⟩ => ((b.bk s _ Ca cl fp (C.blk s _ scope Ca cl fp) gb).2.1).run pins s' σ H Q I w⟩)
    (fun s H Ca cl fp => ⟨fun pins s' σ H Q I ⟨gb, w⟩ => ((b.bk s _ Ca cl fp (C.blk s _ scope Ca cl fp) gb).2.2).run pins s' σ H Q I w⟩) hs
  refine PS.imp (PS.or (ps_lock F) F) fun E σ H h => ?_
  obtain ⟨g, ρ, kk, rfl, s0, e, w, l⟩ := h
  have w : dLcP f gt tc te (own.map (·.2)) ρ (fun d => kk.nx (ρ.set i (.fz d))) (kk.ex ρ) := w
  unfold dLcP at w
  split at w
  · rename_i x hx
    obtain ⟨v, r, lk⟩ := look g0 g ρ σ x s0 e hx
    exact lcP_read (f := f) (Q := fun v H' => E.nx (σ.set i (some v)) H') s0 e r lk w fun d hd v g' s r => l.nx _ _ g' (s0.trans s) ((e.step s).set r i) hd
  · exact w.elim
end
end AU

/-! AuTD4: over data: dict comprehensions whose keys are tuples of numbers; displays of these. -/
namespace AU
open PySem L2 PySem.Spec PyProof.Rows
@[simp] def onK (P : List Int → Prop) : D → Prop
  | .tup ks => keyP ks P
  | _ => False
theorem onK.out {P : List Int → Prop} {d : D} (h : onK P d) : ∃ n ns, d = .tup (List.map D.int (n :: ns)) ∧ P (n :: ns) := by
  cases d with
  | tup ks => obtain ⟨n, ns, rfl, h⟩ := h; exact ⟨n, ns, rfl, h⟩
  | _ => exact h.elim
def dcTN (gt : DG) (tc : DB) (tk te : DT) (ρ : Rho) : List D → List (List Int × D) → (List (List Int × D) → Prop) → Prop
  | [], acc, P => P acc
  | d :: ds, acc, P => gt d ρ fun ρ1 => tc ρ1 (fun b => if b = true then tk ρ1 (onK fun k => te ρ1 (fun y => acc.length < 16777216 ∧ dcTN gt tc tk te ρ ds (putT acc k y) P) noX) noX else dcTN gt tc tk te ρ ds acc P) noX
@[simp] def dDcT (t : DIt) (gt : DG) (tc : DB) (tk te : DT) (sl : List Nat) : DT := fun ρ P Ex => t ρ (fun ds => dcTN gt tc tk te (wipeD ρ sl) ds [] fun acc => P (.dT acc)) Ex
@[simp] def dDcTP (f : Rho → Option D) (gt : DG) (tc : DB) (tk te : DT) (sl : List Nat) : DT := fun ρ P _ => match f ρ with
  | some x => keysD (fun ds => dcTN gt tc tk te (wipeD ρ sl) ds [] fun acc => P (.dT acc)) x
  | none => False
section
variable {X : Cx} {W : WX} {g0 : Gh} {σ : L2.St} {ρ : Rho}
/-- what stands while the dict D grows -/
structure DcT (K : PySem.W.Frag) (gb : Gh) (D : Addr) (vs : List (List Key × V)) (ds : List (List Int × AU.D)) (g : Gh) : Prop where
  st : Step gb g
  ng : g.G D = none
  nm : D ∉ g.M
  at_ : g.H D = some (.dT vs)
  rs : RepT K g vs ds
theorem DcT.step {K : PySem.W.Frag} {gb g g' : Gh} {D : Addr} {vs : List (List Key × V)} {ds : List (List Int × AU.D)} (i : DcT K gb D vs ds g) (s : Step g g') : DcT K gb D vs ds g' where
  st := i.st.trans s
  ng := by
    cases q : g'.G D with
    | none => rfl
    | some z =>
      rcases s.gn D z q with h | h | h
      · rw [i.ng] at h; cases h
      · rw [i.at_] at h; cases h
      · rcases s.ok.le D z q with y | ⟨y, ob, _⟩
        · rw [s.hs D _ i.at_ i.nm] at y; cases y; exact h.elim
        · cases z <;> first | exact y.elim | exact h.elim
  nm := fun hm => by
    rcases s.mn D hm with h | h
    · exact i.nm h
    · rw [i.at_] at h; cases h
  at_ := s.hs D _ i.at_ i.nm
  rs := i.rs.step s
theorem DcT.add {K : PySem.W.Frag} {gb g : Gh} {D : Addr} {vs : List (List Key × V)} {ds : List (List Int × AU.D)} {k : List Int} {v : V} {d : AU.D} (n0 : gb.H D = none) (i : DcT K gb D vs ds g) (r : Rep K g v d) : DcT K gb D (putK vs (kI k) v) (putT ds k d) (g.own D (.dT (putK vs (kI k) v))) := by
  have ne : ∀ a o, g.G a = some o → a ≠ D := fun a o h => ne_of_none h i.ng
  have nM : ∀ a ∈ g.M, a ≠ D := fun a h z => i.nm (z ▸ h)
  have up : ∀ a, a ≠ D → upd g.H D (.dT (putK vs (kI k) v)) a = g.H a := fun a h => upd_ne h
  refine ⟨⟨i.st.gs, i.st.gn, i.st.ms, i.st.mn, fun a o h hm => ?_, ⟨fun a o h => ?_, i.st.ok.dis, fun a hm => ?_⟩⟩, i.ng, i.nm, upd_same, RepT.up (g := g) (g' := g.own D (.dT (putK vs (kI k) v))) (fun _ _ h => h) (fun _ h => h) (RepT.put i.rs r)⟩
  · show upd g.H D (.dT (putK vs (kI k) v)) a = some o
    rw [up a (ne_of_none h n0)]
    exact i.st.hs a o h hm
  · have := i.st.ok.le a o h
    show upd g.H D (.dT (putK vs (kI k) v)) a = some o ∨ _
    rw [up a (ne a o h)]
    rcases this with q | ⟨q, ob, q2⟩
    · exact .inl q
    · refine .inr ⟨q, ob, ?_⟩
      show upd g.H D (.dT (putK vs (kI k) v)) a = _
      rw [up a (ne a o h)]; exact q2
  · obtain ⟨l, ns, j, c, st, h1, h2⟩ := i.st.ok.mok a hm
    refine ⟨l, ns, j, c, st, ?_, h2⟩
    show upd g.H D (.dT (putK vs (kI k) v)) a = _
    rw [up a (nM a hm)]; exact h1
theorem DcT.toOwn {K : PySem.W.Frag} {g0 g1 g : Gh} {D : Addr} {vs : List (List Key × V)} {ds : List (List Int × AU.D)} (s : Step g0 g1) (hD : g1.H D = none) (i : DcT K g1 D vs ds g) : Own K g0 g D (.dT ds) := ⟨s.none hD, i.ng, i.nm, vs, i.at_, i.rs⟩
/-- what stands ahead of a turn -/
def DcTW (K : PySem.W.Frag) (gb g1 : Gh) (ρ : Rho) (σ : L2.St) (gt : DG) (tc : DB) (tk te : DT) (D : Addr) (ds : List AU.D) (P : List (List Int × AU.D) → Prop) (H : Hp) : Prop :=
  ∃ (g : Gh) (vs : List (List Key × V)) (acc : List (List Int × AU.D)), g.H = H ∧ DcT K g1 D vs acc g ∧ EnvOk K gb g ρ σ ∧ NoOw ρ σ D ∧ dcTN gt tc tk te ρ ds acc P
theorem dcT_main {J : It} {gb g1 : Gh} {sl : List Nat} {gt : DG} {tc : DB} {tk te : DT} {ds : List AU.D} {P : List (List Int × AU.D) → Prop} {Qd : Hp → Prop} {D : Addr} (s : Step gb g1) (e : EnvOk X.K gb g1 ρ σ) (y : Yields X.K J gb ds) (hD : g1.H D = none)
    (w : dcTN gt tc tk te ρ ds [] P) (q : ∀ vs acc g, DcT X.K g1 D vs acc g → P acc → Qd g.H) (wi : L2.wipe σ sl = σ) :
    ∃ Wi : Nat → Nat → Hp → Prop, (∃ m, Wi 0 m (upd g1.H D (.dT []))) ∧ ∀ i m H, Wi i m H → (J.stop i H ∧ Qd H) ∨ (J.go i H ∧ ∃ Nx : Hp → Prop, (∀ H', Nx H' → ∃ m', m' < m ∧ Wi (i + 1) m' H') ∧
      ∀ x H', J.yld i H x H' → ∃ gb, liftG X.K gb sl gt x σ H' fun σ2 H2 => L2.wipe σ2 sl = σ ∧ ∃ gb, liftB X.K noW gb tc σ2 H2 fun b H3 =>
        if b = true then ∃ gb, lift X.K noW gb tk σ2 H3 fun y H4 => ∃ gb, lift X.K noW gb te σ2 H4 fun z H5 => ∃ rows key b, y = .ref b ∧ H5 b = some (.tup (List.map kV key)) ∧ H5 D = some (.dT rows) ∧ rows.length < sizeLine ∧ Nx (upd H5 D (.dT (putK rows key z))) else Nx H3) := by
  have s1 := s.ok.own (.dT []) hD
  refine ⟨fun i m H => m = ds.length - i ∧ i ≤ ds.length ∧ DcTW X.K gb g1 ρ σ gt tc tk te D (ds.drop i) P H, ⟨_, rfl, Nat.zero_le _, g1.own D (.dT []), [], [], rfl,
    ⟨s1, s.ok.free hD, s.ok.notM hD, upd_same, .nil⟩, e.step s1, e.free hD, by rw [List.drop_zero]; exact w⟩, ?_⟩
  rintro i m H ⟨rfl, hi, g, vs, acc, rfl, li, e, no, w⟩
  obtain ⟨y1, y2⟩ := y g (s.trans li.st) i
  by_cases hlt : i < ds.length
  · rw [List.drop_eq_getElem_cons hlt] at w
    obtain ⟨go, yl⟩ := y1 _ (List.getElem?_eq_getElem hlt)
    refine .inr ⟨go, fun H => DcTW X.K gb g1 ρ σ gt tc tk te D (ds.drop (i + 1)) P H, fun H' f => ⟨_, by omega, rfl, hlt, f⟩, fun x H' hx => ?_⟩
    obtain ⟨g', rfl, s', r'⟩ := yl x H' hx
    have l' := li.step s'
    refine ⟨gb, g', ρ, _, _, rfl, s.trans l'.st, e.step s', r', w, fun ρ3 σ3 e3 z3 w3 => ⟨z3.trans wi, gb, g', ρ3, _, _, rfl, s.trans l'.st, e3, w3, fun b hb g4 s4 => ?_, fun _ z => z.elim⟩⟩
    have l4 := l'.step s4
    have eb : EnvOk X.K gb g4 ρ σ := (e.step s').step s4
    cases b with
    | true =>
      rw [if_pos rfl] at hb
      dsimp only
      rw [if_pos rfl]
      refine ⟨gb, g4, ρ3, _, _, rfl, s.trans l4.st, e3.step s4, hb, fun kd hk v g5 s5 r5 => ?_, fun _ z => z.elim⟩
      have l5 := l4.step s5
      obtain ⟨n, ns, rfl, hk2⟩ := hk.out
      refine ⟨gb, g5, ρ3, _, _, rfl, s.trans l5.st, (e3.step s4).step s5, hk2, fun yd hy z g6 s6 r6 => ?_, fun _ z => z.elim⟩
      have l6 := l5.step s6
      have r5' := r5.step s6
      cases r5' with
      | @tup b vt ds hbt rbt =>
        exact ⟨vs, kI (n :: ns), b, rfl, key_at s6.ok hbt rbt, l6.at_, by rw [l6.rs.length, sizeLine_eq]; exact hy.1, g6.own D (.dT (putK vs (kI (n :: ns)) z)), putK vs (kI (n :: ns)) z, putT acc (n :: ns) yd, rfl, l6.add hD r6, ((eb.step s5).step s6).put no, no, hy.2⟩
    | false =>
      rw [if_neg Bool.false_ne_true] at hb
      dsimp only
      rw [if_neg Bool.false_ne_true]
      exact ⟨g4, vs, acc, rfl, l4, eb, no, hb⟩
  · have h0 : ds.length ≤ i := Nat.le_of_not_lt hlt
    rw [List.drop_of_length_le h0] at w
    exact .inl ⟨y2 h0, q _ _ _ li w⟩
theorem lift_dcT {sl : List Nat} {t : DIt} {gt : DG} {tc : DB} {tk te : DT} {H : Hp} {Q : VK} (h : lift X.K W g0 (dDcT t gt tc tk te sl) σ H Q) :
    tDcT (liftI X.K W g0 t) (fun v σ H Q => ∃ gb, liftG X.K gb sl gt v σ H Q) (fun σ H Q => ∃ gb, liftB X.K noW gb tc σ H Q) (fun σ H Q => ∃ gb, lift X.K noW gb tk σ H Q) (fun σ H Q => ∃ gb, lift X.K noW gb te σ H Q) sl σ H Q := by
  obtain ⟨g, ρ, P, Ex, rfl, s0, e, w, q, x⟩ := h
  refine ⟨g, ρ, _, _, rfl, s0, e, w, fun ds hd J g1 s1 y1 => ?_, x⟩
  intro D hD
  have s01 := s0.trans s1
  have e1 : EnvOk X.K (g0.re g1) g1 (wipeD ρ sl) (L2.wipe σ sl) := ((e.step s1).re).wipe sl
  have hq : ∀ vs acc g, DcT X.K g1 D vs acc g → P (.dT acc) → Q (.ref D) g.H := fun vs acc g i hp => by
    obtain ⟨g', eh, s', r', _⟩ := (i.toOwn (Step.refl s1.ok) hD).freeze i.st
    rw [← eh]
    exact q _ hp _ g' (s1.trans s') r'
  exact dcT_main (Qd := Q (.ref D)) (s01.to s01 (fun _ _ h => h) fun _ h => h) e1 y1 hD hd hq (wipe_wipe σ sl)
theorem dcTP_read {g : Gh} {tp : TE} {gt : DG} {tc : DB} {tk te : DT} {sl : List Nat} {P : D → Prop} {Q : VK} {v : V} {x : D} (s0 : Step g0 g) (e : EnvOk X.K g0 g ρ σ) (r : Rep X.K g v x)
    (look : ∀ (g1 g' : Gh), EnvOk X.K g1 g' ρ σ → Hold g' → (∀ b o, g.G b = some o → g'.G b = some o) → ∀ Q : VK, Q v g'.H → tp σ g'.H Q) (h : keysD (fun ds => dcTN gt tc tk te (wipeD ρ sl) ds [] fun acc => P (.dT acc)) x)
    (q : ∀ d, P d → ∀ v g', Step g g' → Rep X.K g' v d → Q v g'.H) :
    tLockE (tDcT (iKeys tp) (fun v σ H Q => ∃ gb, liftG X.K gb sl gt v σ H Q) (fun σ H Q => ∃ gb, liftB X.K noW gb tc σ H Q) (fun σ H Q => ∃ gb, lift X.K noW gb tk σ H Q) (fun σ H Q => ∃ gb, lift X.K noW gb te σ H Q) sl) σ g.H Q ∨
    tDcT (iKeys tp) (fun v σ H Q => ∃ gb, liftG X.K gb sl gt v σ H Q) (fun σ H Q => ∃ gb, liftB X.K noW gb tc σ H Q) (fun σ H Q => ∃ gb, lift X.K noW gb tk σ H Q) (fun σ H Q => ∃ gb, lift X.K noW gb te σ H Q) sl σ g.H Q := by
  refine keys_walk s0 e r look h (fun Q J H1 => ∀ D, H1 D = none → ∃ Wh : Nat → Nat → Hp → Prop, (∃ m, Wh 0 m (upd H1 D (.dT []))) ∧ ∀ i m H, Wh i m H → (J.stop i H ∧ Q (.ref D) H) ∨ (J.go i H ∧ ∃ Nx : Hp → Prop, (∀ H', Nx H' → ∃ m', m' < m ∧ Wh (i + 1) m' H') ∧
    ∀ x H', J.yld i H x H' → (∃ gb, liftG X.K gb sl gt x (L2.wipe σ sl) H' fun σ2 H2 => L2.wipe σ2 sl = L2.wipe σ sl ∧ ∃ gb, liftB X.K noW gb tc σ2 H2 fun ok H3 =>
      if ok = true then ∃ gb, lift X.K noW gb tk σ2 H3 fun y H4 => ∃ gb, lift X.K noW gb te σ2 H4 fun z H5 => ∃ rows key b, y = .ref b ∧ H5 b = some (.tup (List.map kV key)) ∧ H5 D = some (.dT rows) ∧ rows.length < sizeLine ∧ Nx (upd H5 D (.dT (putK rows key z))) else Nx H3))) ?_
  intro gb g1 J ds Qd hd s1 e1 y1 fin D hD
  have hq : ∀ vs acc g', DcT X.K g1 D vs acc g' → P (.dT acc) → Qd (.ref D) g'.H := fun vs acc g' i hp => by
    obtain ⟨g'', eh, s', r', _⟩ := (i.toOwn (Step.refl s1.ok) hD).freeze i.st
    rw [← eh]
    refine fin _ g'' s' fun gF sF up um => ?_
    exact q _ hp _ gF sF (r'.up up um)
  exact dcT_main (Qd := Qd (.ref D)) s1 (e1.wipe sl) y1 hD hd hq (wipe_wipe σ sl)
variable {kx elt tg it : Expr} {ifs : List Expr} {scope : Scope} {own : List (Str × Nat)} {pos : Pos} {f : Rho → Option D} {t : DIt} {gt : DG} {tc : DB} {tk te : DT} {k : Nat}
theorem Cn.room {W : WX} {k : Nat} (C : Cn X W k) : X.A.units < cLine := by have := hu_of C; omega
theorem de_dcT (C : Cn X W k) (hi : DI X W g0 tg it t) (ok : BlkOk X.N X.env.scope scope own) (b : DcB X k scope own tg ifs kx elt gt tc tk te) (hs : ∀ x, foldedSetIterable it X.env x = pure x := by intro _; rfl) :
    DE X W g0 (.DictComp kx elt [⟨tg, it, ifs, 0⟩] scope pos) (dDcT t gt tc tk te (own.map (·.2))) :=
  PE.imp (pe_dcT (g := fun v σ H Q => ∃ gb, liftG X.K gb (own.map (·.2)) gt v σ H Q) (tt := fun σ H Q => ∃ gb, liftB X.K noW gb tc σ H Q) (tk := fun σ H Q => ∃ gb, lift X.K noW gb tk σ H Q) (tv := fun σ H Q => ∃ gb, lift X.K noW gb te σ H Q) C.room C.cm C.nd hi ok
    (fun s H Ca cl fp => ⟨fun pins s' σ H v u Q I r ⟨gb, w⟩ => ((b.bk s _ Ca cl fp (C.blk s _ scope Ca cl fp) gb).1).run pins s' σ H v u Q I r w⟩)
    (fun s H Ca cl fp => ⟨fun pins s' σ H Q I ⟨gb, w⟩ => ((b.bk s _ Ca cl fp (C.blk s _ scope Ca cl fp) gb).2.1).run pins s' σ H Q I w⟩)
    (fun s H Ca cl fp => ⟨fun pins s' σ H Q I ⟨gb, w⟩ => ((b.bk s _ Ca cl fp (C.blk s _ scope Ca cl fp) gb).2.2.1).run pins s' σ H Q I w⟩)
    (fun s H Ca cl fp => ⟨fun pins s' σ H Q I ⟨gb, w⟩ => ((b.bk s _ Ca cl fp (C.blk s _ scope Ca cl fp) gb).2.2.2).run pins s' σ H Q I w⟩) hs) fun σ H Q h => lift_dcT h
theorem de_dcTP (C : Cn X W k) (hp : Pth X it f) (ok : BlkOk X.N X.env.scope scope own) (b : DcB X k scope own tg ifs kx elt gt tc tk te) (hs : ∀ x, foldedSetIterable it X.env x = pure x := by intro _; rfl) :
    DE X W g0 (.DictComp kx elt [⟨tg, it, ifs, 0⟩] scope pos) (dDcTP f gt tc tk te (own.map (·.2))) := by
  obtain ⟨tp, hpe, look⟩ := hp
  have F := pe_dcT (pos := pos) (g := fun v σ H Q => ∃ gb, liftG X.K gb (own.map (·.2)) gt v σ H Q) (tt := fun σ H Q => ∃ gb, liftB X.K noW gb tc σ H Q) (tk := fun σ H Q => ∃ gb, lift X.K noW gb tk σ H Q) (tv := fun σ H Q => ∃ gb, lift X.K noW gb te σ H Q) C.room C.cm C.nd (pi_keys (tg := tg) hpe) ok
    (fun s H Ca cl fp => ⟨fun pins s' σ H v u Q I r ⟨gb, w⟩ => ((b.bk s _ Ca cl fp (C.blk s _ scope Ca cl fp) gb).1).run pins s' σ H v u Q I r w⟩)
    (fun s H Ca cl fp => ⟨fun pins s' σ H Q I ⟨gb, w⟩ => ((b.bk s _ Ca cl fp (C.blk s _ scope Ca cl fp) gb).2.1).run pins s' σ H Q I w⟩)
    (fun s H Ca cl fp => ⟨fun pins s' σ H Q I ⟨gb, w⟩ => ((b.bk s _ Ca cl fp (C.blk s _ scope Ca cl fp) gb).2.2.1).run pins s' σ H Q I w⟩)
    (fun s H Ca cl fp => ⟨fun pins s' σ H Q I ⟨gb, w⟩ => ((b.bk s _ Ca cl fp (C.blk s _ scope Ca cl fp) gb).2.2.2).run pins s' σ H Q I w⟩) hs
  refine PE.imp (PE.or (pe_lock F) F) fun σ H Q h => ?_
  obtain ⟨g, ρ, P, Ex, rfl, s0, e, w, q, x⟩ := h
  unfold dDcTP at w
  split at w
  · rename_i x hx
    obtain ⟨v, r, lk⟩ := look g0 g ρ σ x s0 e hx
    exact dcTP_read s0 e r lk w q
  · exact w.elim
end
end AU

/-! AuTD5: over data: displays with keys that are tuples; dict(d), sorted(d), == of dicts. -/
namespace AU
open PySem L2 PySem.Spec PyProof.Rows
/-! ### displays -/
def mergeT (kvs : List (List Int × D)) : List (List Int × D) := kvs.foldl (fun acc kv => putT acc kv.1 kv.2) []
abbrev DKt := Rho → (List (List Int × D) → Prop) → (Str → Prop) → Prop
@[simp] def dKt : List (DT × DT) → DKt
  | [] => fun _ P _ => P []
  | (tk, tv) :: r => fun ρ P Ex => tk ρ (onK fun x => tv ρ (fun d => dKt r ρ (fun kvs => P ((x, d) :: kvs)) Ex) Ex) Ex
@[simp] def dDispT (ts : List (DT × DT)) : DT := fun ρ P Ex => dKt ts ρ (fun kvs => kvs.length ≤ 15 ∧ P (.dT (mergeT kvs))) Ex
section
variable {X : Cx} {W : WX} {g0 : Gh} {pos : Pos} {σ : L2.St}
/-- the pairs, with where the keys stand -/
inductive RepA (K : PySem.W.Frag) (g : Gh) : List (List Key × Addr × V) → List (List Int × D) → Prop
  | nil : RepA K g [] []
  | cons {k : List Int} {b : Addr} {v : V} {d : D} {l : List (List Key × Addr × V)} {ds : List (List Int × D)} : g.H b = some (.tup (List.map kV (kI k))) → Rep K g v d → RepA K g l ds → RepA K g ((kI k, b, v) :: l) ((k, d) :: ds)
theorem RepA.length {K : PySem.W.Frag} {g : Gh} : ∀ {l : List (List Key × Addr × V)} {ds : List (List Int × D)}, RepA K g l ds → l.length = ds.length
  | _, _, .nil => rfl
  | _, _, .cons _ _ r => by rw [List.length_cons, List.length_cons, r.length]
theorem RepA.mem {K : PySem.W.Frag} {g : Gh} : ∀ {l : List (List Key × Addr × V)} {ds : List (List Int × D)}, RepA K g l ds → ∀ q ∈ l, g.H q.2.1 = some (.tup (q.1.map kV))
  | _, _, .nil, q, h => by cases h
  | _, _, .cons a _ r, q, h => by
    rcases List.mem_cons.mp h with e | h
    · subst e; exact a
    · exact r.mem q h
theorem RepA.repT {K : PySem.W.Frag} {g : Gh} : ∀ {l : List (List Key × Addr × V)} {ds : List (List Int × D)}, RepA K g l ds → RepT K g (l.map fun q => (q.1, q.2.2)) ds
  | _, _, .nil => .nil
  | _, _, .cons _ b r => .cons b r.repT
theorem dkt_read : ∀ {ts : List (DT × DT)} {g : Gh} {ρ : Rho} {P : List (List Int × D) → Prop} {Ex : Str → Prop} {Q : List (V × V) → Hp → Prop}, Step g0 g → EnvOk X.K g0 g ρ σ → dKt ts ρ P Ex →
    (∀ kvs, P kvs → ∀ (l : List (List Key × Addr × V)) (g' : Gh), Step g g' → RepA X.K g' l kvs → Q (l.map fun q => (V.ref q.2.1, q.2.2)) g'.H) → XOk X.K W g σ Ex → tPairs (ts.map fun p => (lift X.K W g0 p.1, lift X.K W g0 p.2)) σ g.H Q
  | [], g, ρ, P, Ex, Q, s0, e, w, q, x => q [] w [] g (Step.refl s0.ok) .nil
  | (tk, tv) :: ts, g, ρ, P, Ex, Q, s0, e, w, q, x => by
    refine ⟨g, ρ, _, Ex, rfl, s0, e, w, fun d hd v g1 s1 r1 => ?_, x⟩
    obtain ⟨n, ns, rfl, hz⟩ := hd.out
    refine ⟨g1, ρ, _, Ex, rfl, s0.trans s1, e.step s1, hz, fun d hd v2 g2 s2 r2 => ?_, x.step s1⟩
    refine dkt_read (s0.trans (s1.trans s2)) (e.step (s1.trans s2)) hd (fun kvs hk l g3 s3 r3 => ?_) (x.step (s1.trans s2))
    have r1' := r1.step (s2.trans s3)
    cases r1' with
    | @tup b vs ks hb rb => exact q _ hk ((kI (n :: ns), b, v2) :: l) g3 (s1.trans (s2.trans s3)) (.cons (key_at s3.ok hb rb) (r2.step s3) r3)
theorem mergeT_rep {K : PySem.W.Frag} {g : Gh} : ∀ {vs : List (List Key × V)} {kvs : List (List Int × D)} {ws : List (List Key × V)} {acc : List (List Int × D)}, RepT K g vs kvs → RepT K g ws acc → RepT K g (mergeTK ws vs) (kvs.foldl (fun acc kv => putT acc kv.1 kv.2) acc)
  | _, _, _, _, .nil, s => s
  | _, _, ws, acc, .cons (vs := vs) (ds := ds) (k := k) (v := v) (d := d) r rs, s => mergeT_rep (vs := vs) (kvs := ds) (ws := putK ws (kI k) v) (acc := putT acc k d) rs (RepT.put s r)
theorem de_dispT {k : Nat} {keys : List (Option Expr)} {values : List Expr} {ts : List (DT × DT)} (C : Cn X W k) (h : DPr X W g0 keys values ts) (hall : keys.all (·.isSome) = true := by rfl) (hl : keys.length = values.length := by rfl) (h0 : keys ≠ [] := by exact List.cons_ne_nil _ _)
    (h15 : keys.length ≤ 15 := by decide) : DE X W g0 (.Dict keys values pos) (dDispT ts) := PE.imp (pe_dispT (hu_of C) (dpr_pps h) hall hl h0 h15) fun σ H Q w => by
  obtain ⟨g, ρ, P, Ex, rfl, s0, e, w, q, x⟩ := w
  intro p hp
  have s1 := s0.ok.own (.dT []) hp
  refine dkt_read (g := g.own p (.dT [])) (s0.trans s1) (e.step s1) w (fun kvs hk l g2 s2 r2 => ?_) (x.step s1)
  have ng : (g.own p (.dT [])).G p = none := s0.ok.free hp
  have nm : p ∉ (g.own p (.dT [])).M := s0.ok.notM hp
  have h2 : g2.H p = some (.dT []) := s2.hs p _ upd_same nm
  refine ⟨h2, l, rfl, r2.mem, by rw [r2.length]; exact hk.1, ?_⟩
  have o2 : Own X.K g (g2) p (.dT []) := (⟨hp, ng, nm, [], upd_same, .nil⟩ : Own X.K g (g.own p (.dT [])) p (.dT [])).step s2
  have eo : EnvOk X.K g g2 [.ow (.dT [])] [some (.ref p)] := ⟨rfl, fun i d h => by
    cases i with
    | zero => cases h
    | succ i => simp at h, fun i d h => by
    cases i with
    | zero => cases h; exact ⟨p, rfl, o2⟩
    | succ i => simp at h, fun i j d e' p' hij h1 h2 => by
    cases i <;> cases j <;> simp at h1 h2 hij⟩
  obtain ⟨s3, e3⟩ := eo.write (X := X) (i := 0) (d := .dT []) (p := p) (o := .dT (mergeTK [] (l.map fun q => (q.1, q.2.2)))) (d' := .dT (mergeT kvs)) (s1.trans s2) rfl rfl ⟨_, upd_same, RepT.up (g := g2) (g' := g2.own p _) (fun _ _ h => h) (fun _ h => h) (mergeT_rep r2.repT .nil)⟩
  obtain ⟨p', hp', o3⟩ := e3.ow 0 _ rfl
  cases hp'
  obtain ⟨g4, eh, s4, r4, _⟩ := o3.freeze s3
  have z := q _ hk.2 _ g4 s4 r4
  rw [eh] at z
  exact z
end

/-! ### dict(d) -/
def hashIJ (q : Nat × Nat) : Int := reduceHash (Builtin.Tuple.tupleHashOf [hashInt (q.1 : Nat), hashInt (q.2 : Nat)])
def gridIJ : List (Nat × Nat) := (List.range 24).flatMap fun i => (List.range 24).map fun j => (i, j)
/-- sorted, by merging: to see quickly that no two are alike -/
def mergeN : Nat → List Nat → List Nat → List Nat
  | 0, a, b => a ++ b
  | _ + 1, [], b => b
  | _ + 1, x :: a, [] => x :: a
  | n + 1, x :: a, y :: b => bif Nat.ble x y then x :: mergeN n a (y :: b) else y :: mergeN n (x :: a) b
def sortN : Nat → List Nat → List Nat
  | 0, l => l
  | n + 1, l => mergeN 1000 (sortN n (l.take (l.length / 2))) (sortN n (l.drop (l.length / 2)))
def strictN : List Nat → Bool
  | x :: y :: r => Nat.blt x y && strictN (y :: r)
  | _ => true
theorem mergeN_perm : ∀ (n : Nat) (a b : List Nat), (mergeN n a b).Perm (a ++ b)
  | 0, a, b => List.Perm.refl _
  | _ + 1, [], b => List.Perm.refl _
  | _ + 1, x :: a, [] => by rw [List.append_nil]; exact List.Perm.refl _
  | n + 1, x :: a, y :: b => by
    unfold mergeN
    cases Nat.ble x y with
    | true => exact (mergeN_perm n a (y :: b)).cons x
    | false => exact ((mergeN_perm n (x :: a) b).cons y).trans (List.perm_middle.symm)
theorem sortN_perm : ∀ (n : Nat) (l : List Nat), (sortN n l).Perm l
  | 0, l => List.Perm.refl _
  | n + 1, l => by
    refine (mergeN_perm _ _ _).trans (((sortN_perm n _).append (sortN_perm n _)).trans (List.Perm.of_eq ?_))
    exact List.take_append_drop _ _
theorem strict_nodup : ∀ {l : List Nat}, strictN l = true → l.Pairwise (· < ·)
  | [], _ => .nil
  | [x], _ => List.pairwise_singleton _ _
  | x :: y :: r, h => by
    unfold strictN at h
    rw [Bool.and_eq_true] at h
    have h1 : x < y := Nat.le_of_ble_eq_true h.1
    have ih := strict_nodup h.2
    refine List.pairwise_cons.mpr ⟨fun z hz => ?_, ih⟩
    rcases List.mem_cons.mp hz with e | hz
    · rw [e]; exact h1
    · exact Nat.lt_trans h1 ((List.pairwise_cons.mp ih).1 z hz)
def codeN (x : Int) : Nat := (x + 18446744073709551616).toNat
theorem nodup_of {l : List Int} (h : strictN (sortN 11 (l.map codeN)) = true) : l.Nodup := by
  have h1 := strict_nodup h
  have h2 : (sortN 11 (l.map codeN)).Nodup := h1.imp fun h e => by omega
  have h3 : (l.map codeN).Nodup := (sortN_perm _ _).nodup_iff.mp h2
  unfold List.Nodup at h3 ⊢
  rw [List.pairwise_map] at h3
  exact h3.imp fun h e => h (by rw [e])
theorem grid_apart : (gridIJ.map hashIJ).Nodup := nodup_of (by decide +kernel)
theorem hash_inj {i j k m : Nat} (hi : i < 24) (hj : j < 24) (hk : k < 24) (hm : m < 24) (e : hashIJ (i, j) = hashIJ (k, m)) : i = k ∧ j = m := by
  have mem : ∀ {i j : Nat}, i < 24 → j < 24 → (i, j) ∈ gridIJ := fun {i j} hi hj => List.mem_flatMap.mpr ⟨i, List.mem_range.mpr hi, List.mem_map.mpr ⟨j, List.mem_range.mpr hj, rfl⟩⟩
  have h := grid_apart
  obtain ⟨a, ha, ea⟩ := List.getElem_of_mem (mem hi hj)
  obtain ⟨b, hb, eb⟩ := List.getElem_of_mem (mem hk hm)
  have q : (gridIJ.map hashIJ)[a]? = (gridIJ.map hashIJ)[b]? := by
    rw [List.getElem?_map, List.getElem?_map, List.getElem?_eq_getElem ha, List.getElem?_eq_getElem hb, ea, eb]
    simp [e]
  have ab := (List.getElem?_inj (by simpa using ha) h).mp q
  subst ab
  rw [ea] at eb
  exact Prod.mk.inj eb
/-- keys: pairs of small numbers, each once -/
def smallK {α : Type} (kvs : List (List Int × α)) : Prop := (kvs.map (·.1)).Nodup ∧ ∀ q ∈ kvs, ∃ i j : Nat, q.1 = [(i : Int), (j : Int)] ∧ i < 24 ∧ j < 24
theorem hash_pair (P : Program) (w : World) (i j : Nat) : (tupleKind (mixKind P w)).hash (kI [(i : Int), (j : Int)]) = hashIJ (i, j) := rfl
theorem repT_keys {K : PySem.W.Frag} {g : Gh} : ∀ {vs : List (List Key × V)} {kvs : List (List Int × D)}, RepT K g vs kvs → vs.map (·.1) = (kvs.map (·.1)).map kI
  | _, _, .nil => rfl
  | _, _, .cons r rs => by rw [List.map_cons, List.map_cons, List.map_cons, repT_keys rs]
theorem small_apart {P : Program} {w : World} {α : Type} : ∀ {kvs : List (List Int × α)}, smallK kvs → ((kvs.map (·.1)).map fun k => (tupleKind (mixKind P w)).hash (kI k)).Nodup := by
  intro kvs h
  obtain ⟨h1, h2⟩ := h
  unfold List.Nodup at h1 ⊢
  rw [List.pairwise_map]
  refine List.Pairwise.imp_of_mem (fun {a b} ha hb hne e => hne ?_) h1
  obtain ⟨qa, ma, rfl⟩ := List.mem_map.mp ha
  obtain ⟨qb, mb, rfl⟩ := List.mem_map.mp hb
  obtain ⟨i, j, e1, hi, hj⟩ := h2 qa ma
  obtain ⟨k, m, e2, hk, hm⟩ := h2 qb mb
  rw [e1, e2, hash_pair, hash_pair] at e
  obtain ⟨rfl, rfl⟩ := hash_inj hi hj hk hm e
  rw [e1, e2]
@[simp] def fDict : D → (D → Prop) → Prop
  | .dS kvs, P => P (.dS kvs)
  | .dT kvs, P => smallK kvs ∧ P (.dT kvs)
  | _, _ => False
abbrev rDict (X : Cx) : List V → Hp → VK → Prop := fun xs H Q => (∃ (a : Addr) (kvs : List (Key × V)), xs = [.ref a] ∧ Rd H a (.dK kvs) ∧ ∀ p, H p = none → Q (.ref p) (upd H p (.dK kvs))) ∨
  (∃ (a : Addr) (kvs : List (List Key × V)), xs = [.ref a] ∧ Rd H a (.dT kvs) ∧ (kvs.map fun q => (tupleKind (mixKind X.prog X.w)).hash q.1).Nodup ∧ ∀ p, H p = none → Q (.ref p) (upd H p (.dT kvs)))
theorem rd_hold {g : Gh} (h : Hold g) {a : Addr} {o : HO} (e : g.G a = some o) : Rd g.H a o := by
  rcases h.le _ _ e with q | ⟨_, ob, q⟩
  · exact .inl q
  · exact .inr ⟨ob, q⟩
section
variable {X : Cx} {W : WX} {g0 : Gh} {k : Nat} {e : Expr} {ts : DA} {p pos : Pos}
theorem cr_dict (C : Cn X W k) : CallR X (.type "dict") (rDict X) := by
  have hu : X.A.units + 4 < cLine := by have := C.hr.un; omega
  intro pins s σ H xs us Q I r h
  rcases h with h | h
  · exact call_dictD pins s σ H xs us Q I r h
  · exact call_dictT hu pins s σ H xs us Q I r h
theorem apart_rep {K : PySem.W.Frag} {g : Gh} {P : Program} {w : World} {vs : List (List Key × V)} {kvs : List (List Int × D)} (r : RepT K g vs kvs) (h : smallK kvs) : (vs.map fun q => (tupleKind (mixKind P w)).hash q.1).Nodup := by
  have e : vs.map (fun q => (tupleKind (mixKind P w)).hash q.1) = (vs.map (·.1)).map (tupleKind (mixKind P w)).hash := by rw [List.map_map]; rfl
  rw [e, repT_keys r, List.map_map]
  exact small_apart (P := P) (w := w) h
theorem relC_dict : RelC X.K (rDict X) (on1 fDict) := by
  intro g0 g xs a P Q s rs w q
  cases rs with
  | nil => exact w.elim
  | cons r rs =>
    cases rs with
    | cons _ _ => exact w.elim
    | nil =>
      cases r with
      | @dS b vs ds hb rb =>
        refine .inl ⟨b, vs, rfl, rd_hold s.ok hb, fun l hl => ?_⟩
        have s1 := s.ok.new (.dK vs) hl
        exact q _ w _ _ s1 (.dS (show upd g.G l _ l = _ from upd_same) (rb.step s1))
      | @dT b vs ds hb rb =>
        refine .inr ⟨b, vs, rfl, rd_hold s.ok hb, apart_rep rb w.1, fun l hl => ?_⟩
        have s1 := s.ok.new (.dT vs) hl
        exact q _ w.2 _ _ s1 (.dT (show upd g.G l _ l = _ from upd_same) (rb.step s1))
      | _ => exact w.elim
theorem relF_dict : RelF X.K (rDict X) (on1 fDict) := by
  intro g0 g xs a P Q s rs w q
  cases rs with
  | nil => exact w.elim
  | cons r rs =>
    cases rs with
    | cons _ _ => exact w.elim
    | nil =>
      cases r with
      | @dS b vs ds hb rb =>
        refine .inl ⟨b, vs, rfl, rd_hold s.ok hb, fun l hl => ?_⟩
        have s1 := s.ok.own (.dK vs) hl
        exact q _ w l _ s1 hl ⟨n0_of s hl, s.ok.free hl, s.ok.notM hl, vs, upd_same, rb.step s1⟩
      | @dT b vs ds hb rb =>
        refine .inr ⟨b, vs, rfl, rd_hold s.ok hb, apart_rep rb w.1, fun l hl => ?_⟩
        have s1 := s.ok.own (.dT vs) hl
        exact q _ w.2 l _ s1 hl ⟨n0_of s hl, s.ok.free hl, s.ok.notM hl, vs, upd_same, rb.step s1⟩
      | _ => exact w.elim
theorem bt_dict : bootBuiltins ("dict" : Str) = some (.type "dict") := by decide +kernel
theorem dc_dict (C : Cn X W k) (B : Bi X.mg) (ha : DPA X W g0 [e] ts) (hg : Gl X "dict" := by rfl) (he : starEach [e] X.env = (false, eval e X.env) :: starEach [] X.env := by rfl) (hpl : (backTo pos (starEach [] X.env)).any (·.1) = false := by rfl) :
    DE X W g0 (.Call (.Name "dict" p) [e] [] pos) (dB (on1 fDict) ts) := de_callTy (cr_dict C) relC_dict (B.at_ "dict") bt_dict ha hg (by decide) (by decide) he hpl
theorem df_dict (C : Cn X W k) (B : Bi X.mg) (ha : DPA X W g0 [e] ts) (hg : Gl X "dict" := by rfl) (he : starEach [e] X.env = (false, eval e X.env) :: starEach [] X.env := by rfl) (hpl : (backTo pos (starEach [] X.env)).any (·.1) = false := by rfl) :
    DF X W g0 (.Call (.Name "dict" p) [e] [] pos) (dB (on1 fDict) ts) := df_callTy (cr_dict C) relF_dict (B.at_ "dict") bt_dict ha hg (by decide) (by decide) he hpl
end
end AU

/-! AuTD6: over data: sorted(d), == of dicts, d.get, in, isinstance of own classes, one's own lists. -/
namespace AU
open PySem L2 PySem.Spec PyProof.Rows
/-! ### sorted(d), its keys pairs of numbers -/
@[simp] def fSortT : D → (D → Prop) → Prop
  | .dT kvs, P => ∃ ks : List (Int × Int), kvs.map (·.1) = ks.map (fun k => [k.1, k.2]) ∧ ∀ ms : List (Int × Int), ms.Perm ks → SrtO.Srtd SrtO.lexB ms → P (.lst (ms.map fun m => .tup [.int m.1, .int m.2]))
  | _, _ => False
section
variable {K : PySem.W.Frag}
theorem freeze_pairs : ∀ {bs : List Addr} {ms : List (Int × Int)} {g : Gh}, Hold g → IsPairs g.H bs ms → ∃ g', g'.H = g.H ∧ Step g g' ∧ Reps K g' (bs.map V.ref) (ms.map fun m => D.tup [.int m.1, .int m.2])
  | _, _, g, h, .nil => ⟨g, rfl, Step.refl h, .nil⟩
  | b :: bs, m :: ms, g, h, .cons hb t => by
    obtain ⟨g1, e1, s1, hg⟩ := freeze_tup (K := K) h hb
    have t1 : IsPairs g1.H bs ms := by rw [e1]; exact t
    obtain ⟨g2, e2, s2, r2⟩ := freeze_pairs (bs := bs) (ms := ms) s1.ok t1
    refine ⟨g2, e2.trans e1, s1.trans s2, .cons ?_ r2⟩
    exact Rep.step (g := g1) (.tup (TpAt.of (K := K) hg) (.cons (.int _) (.cons (.int _) .nil))) s2
abbrev rSortT : List V → Hp → VK → Prop := fun xs H Q => ∃ (a : Addr) (kvs : List (List Key × V)) (ks : List (Int × Int)), xs = [.ref a] ∧ Rd H a (.dT kvs) ∧ kvs.map (·.1) = ks.map (fun k => [Sum.inl k.1, Sum.inl k.2]) ∧
    ∀ (bs : List Addr) (ms : List (Int × Int)) (p : Addr), ms.Perm ks → SrtO.Srtd SrtO.lexB ms → IsPairs H bs ms → H p = none → Q (.ref p) (upd H p (.lst (bs.map V.ref)))
theorem rel_sortT : RelC K rSortT (on1 fSortT) := by
  intro g0 g xs a P Q s rs w q
  cases rs with
  | nil => exact w.elim
  | cons r rs =>
    cases rs with
    | cons _ _ => exact w.elim
    | nil =>
      cases r with
      | @dT b vs ds hb rb =>
        obtain ⟨ks, h1, hw⟩ := w
        refine ⟨b, vs, ks, rfl, rd_hold s.ok hb, ?_, fun bs ms p hp hs hI hn => ?_⟩
        · rw [repT_keys rb, h1, List.map_map]
          rfl
        · obtain ⟨g1, e1, s1, r1⟩ := freeze_pairs (K := K) s.ok hI
          have hn1 : g1.H p = none := by rw [e1]; exact hn
          obtain ⟨s2, r2⟩ := newLst s1.ok hn1 r1
          have z := q _ (hw ms hp hs) _ _ (s1.trans s2) r2
          have eH : (g1.new p (.lst (bs.map V.ref))).H = upd g.H p (.lst (bs.map V.ref)) := by show upd g1.H p _ = _; rw [e1]
          rw [eH] at z
          exact z
      | _ => exact w.elim
end
section
variable {X : Cx} {W : WX} {g0 : Gh} {k : Nat} {e : Expr} {ts : DA} {p pos : Pos}
theorem dc_sortT (C : Cn X W k) (B : Bi X.mg) (ha : DPA X W g0 [e] ts) (hg : Gl X "sorted" := by rfl) (he : starEach [e] X.env = (false, eval e X.env) :: starEach [] X.env := by rfl) (hpl : (backTo pos (starEach [] X.env)).any (·.1) = false := by rfl) :
    DE X W g0 (.Call (.Name "sorted" p) [e] [] pos) (dB (on1 fSortT) ts) := de_callB (call_sortedT C.cm) rel_sortT (B.at_ "sorted") bt_sorted ha hg (by decide) (by decide) he hpl
end

/-! ### == of dicts with keys that are tuples, their values numbers -/
def lookI (l : List (List Int × Int)) (k : List Int) : Option Int := (l.find? fun kv => decide (kv.1 = k)).map (·.2)
def eqI (a b : List (List Int × Int)) : Bool := a.length == b.length && a.all fun q => decide (lookI b q.1 = some q.2)
abbrev rowI (q : List Int × Int) : List Key × V := (kI q.1, V.int q.2)
def rEqI : R2 := fun x y H Q => ∃ (a b : Addr) (la lb : List (List Int × Int)), x = .ref a ∧ y = .ref b ∧ Rd H a (.dT (la.map rowI)) ∧ Rd H b (.dT (lb.map rowI)) ∧ Q (.bl (eqI la lb)) H
section
variable {X : Cx}
theorem valV_rows : ∀ (l : List (List Int × Int)) (k : List Int), valV (l.map rowI) (kI k) = (lookI l k).map V.int
  | [], k => rfl
  | q :: l, k => by
    have ih := valV_rows l k
    unfold valV lookI at *
    rw [List.map_cons, List.find?_cons, List.find?_cons]
    by_cases h : q.1 = k
    · rw [decide_eq_true h, decide_eq_true (show (rowI q).1 = kI k by rw [← h])]; rfl
    · have h2 : ¬ kI q.1 = kI k := fun z => h (kI_inj.mp z)
      rw [decide_eq_false h2, decide_eq_false h]
      exact ih
theorem at_place {ys : List (List Key × Addr × Value)} {k : List Key} {p : Addr × Value} (h : atKey ys k = some p) : ∃ j : Nat, ys[j]? = some (k, p) := by
  unfold atKey at h
  obtain ⟨y, hy, rfl⟩ := Option.map_eq_some_iff.mp h
  have hk := List.find?_some hy
  obtain ⟨j, hj, e⟩ := List.getElem_of_mem (List.mem_of_find?_eq_some hy)
  refine ⟨j, ?_⟩
  rw [List.getElem?_eq_getElem hj, e]
  have : y.1 = k := by simpa using hk
  rw [← this]
theorem hits_int {H : Hp} {B : Around} {s : Shared} {lb : List (List Int × Int)} {ys : List (List Key × Addr × Value)} (rb : KT H (lb.map rowI) ys) (nd : (ys.map (·.1)).Nodup) : ∀ {la : List (List Int × Int)} {xs : List (List Key × Addr × Value)}, KT H (la.map rowI) xs →
    HitsH B s ys xs (la.all fun q => decide (lookI lb q.1 = some q.2))
  | [], _, r => by cases r; exact .nil
  | q :: la, _, r => by
    rw [List.map_cons] at r
    cases r with
    | @cons _ x _ xs h t =>
      obtain ⟨k, a, v⟩ := x
      obtain ⟨h1, h2, i, h3⟩ := h
      have h1 : kI q.1 = k := h1
      subst h1
      have h3 : v = Value.int q.2 i := h3
      subst h3
      have vv := rb.val (kI q.1)
      rw [valV_rows] at vv
      rw [List.all_cons]
      cases e : lookI lb q.1 with
      | none =>
        rw [e] at vv
        rw [show decide ((none : Option Int) = some q.2) = false from rfl, Bool.false_and]
        refine .miss fun j p hj => ?_
        have : atKey ys (kI q.1) = some p := atKey_of_get nd hj
        rw [this] at vv
        exact vv
      | some m =>
        rw [e] at vv
        cases ea : atKey ys (kI q.1) with
        | none => rw [ea] at vv; exact vv.elim
        | some p =>
          rw [ea] at vv
          obtain ⟨c, y⟩ := p
          obtain ⟨t2, ey⟩ := (show ∃ t, y = Value.int m t from vv)
          subst ey
          obtain ⟨j, hj⟩ := at_place ea
          have hd : decide ((some m : Option Int) = some q.2) = decide (q.2 = m) := by
            by_cases z : q.2 = m
            · rw [z, decide_eq_true rfl, decide_eq_true rfl]
            · rw [decide_eq_false z, decide_eq_false fun y => z (Option.some.inj y).symm]
          rw [hd]
          refine .hit hj ?_ (hits_int rb nd t)
          have := SeqAt.EqAt.int_int (A := B) (s := s) q.2 i m t2
          exact this
theorem opr_eqI {W : WX} {k : Nat} (C : Cn X W k) : OpR X (compareOp .Eq) rEqI := by
  intro pins s σ H x y v u Q I rx ry h
  obtain ⟨a, b, la, lb, rfl, rfl, ea, eb, q⟩ := h
  cases (show v = Value.ref a from rx)
  cases (show u = Value.ref b from ry)
  obtain ⟨_, sa, xs, ra, da⟩ := dt_rd I.hok ea
  obtain ⟨_, sb, ys, rb, db⟩ := dt_rd I.hok eb
  have l1 : xs.length = la.length := by rw [← Paired.length ra, List.length_map]
  have l2 : ys.length = lb.length := by rw [← Paired.length rb, List.length_map]
  have hu := hu_of C
  refine eqH (kd := tupleKind (mixKind X.prog X.w)) (show X.A.units + 1 < cLine from hu) sa sb da db (by omega) (fun _ => hits_int rb db.nodup ra) ⟨.bl (eqI la lb), H, I, ?_, q⟩
  show RelV _ _
  unfold eqI
  rw [l1, l2]
  rfl
end
def asI : List (List Int × D) → Option (List (List Int × Int))
  | [] => some []
  | (k, .int i) :: r => (asI r).map ((k, i) :: ·)
  | _ => none
@[simp] theorem asI_map : ∀ l : List (List Int × Int), asI (l.map fun q => (q.1, D.int q.2)) = some l
  | [] => rfl
  | (k, i) :: r => by show (asI (r.map fun q => (q.1, D.int q.2))).map _ = _; rw [asI_map r]; rfl
theorem asI_eq : ∀ {l : List (List Int × D)} {m : List (List Int × Int)}, asI l = some m → l = m.map fun q => (q.1, D.int q.2)
  | [], m, h => by cases h; rfl
  | (k, .int i) :: r, m, h => by
    have h' : (asI r).map ((k, i) :: ·) = some m := h
    cases e : asI r with
    | none => rw [e] at h'; cases h'
    | some z =>
      rw [e] at h'
      cases h'
      rw [asI_eq e]; rfl
  | (k, .non) :: _, _, h => by cases h
  | (k, .bl _) :: _, _, h => by cases h
  | (k, .str _) :: _, _, h => by cases h
  | (k, .tup _) :: _, _, h => by cases h
  | (k, .lst _) :: _, _, h => by cases h
  | (k, .dS _) :: _, _, h => by cases h
  | (k, .dT _) :: _, _, h => by cases h
  | (k, .ch _ _) :: _, _, h => by cases h
  | (k, .drw) :: _, _, h => by cases h
  | (k, .scr _) :: _, _, h => by cases h
  | (k, .adr _) :: _, _, h => by cases h
@[simp] def fEqT : D → D → (D → Prop) → Prop
  | .dT a, .dT b, P => ∃ la lb, asI a = some la ∧ asI b = some lb ∧ P (.bl (eqI la lb))
  | _, _, _ => False
theorem rel_eqI {K : PySem.W.Frag} : Rel2 K rEqI fEqT := by
  intro g0 g x y a b P Q s rx ry w q
  cases rx with
  | @dT a1 va da ha ra => cases ry with
    | @dT b1 vb db hb rb =>
      obtain ⟨la, lb, e1, e2, w⟩ := w
      have z1 := asI_eq e1
      have z2 := asI_eq e2
      subst z1 z2
      have y1 := intsT_of ra
      have y2 := intsT_of rb
      subst y1 y2
      exact ⟨a1, b1, la, lb, rfl, rfl, rd_hold s.ok ha, rd_hold s.ok hb, q _ w _ g (Step.refl s.ok) (.bl _)⟩
    | _ => exact w.elim
  | _ => cases ry <;> exact w.elim
theorem de_eqT {X : Cx} {W : WX} {g0 : Gh} {k : Nat} {a b : Expr} {ta tb : DT} {pos : Pos} (C : Cn X W k) (ha : DE X W g0 a ta) (hb : DE X W g0 b tb) : DE X W g0 (.Compare a [.Eq] [b] pos) (dOp fEqT ta tb) := de_cmp (opr_eqI C) rel_eqI ha hb (nomark _)
end AU

/-! AuTD7: over data: d.get, in, isinstance, one's own lists, sums of tuples. -/
namespace AU
open PySem L2 PySem.Spec PyProof.Rows
theorem rd_isD {K : PySem.W.Frag} {g : Gh} (h : Hold g) {v : V} {d : D} (r : Rep K g v d) (hd : isDct d) : ∃ a, v = .ref a ∧ IsD g.H a := by
  cases r with
  | @dS a vs ds hb rb => exact ⟨a, rfl, .inl ⟨vs, rd_hold h hb⟩⟩
  | @dT a vs ds hb rb => exact ⟨a, rfl, .inr ⟨vs, rd_hold h hb⟩⟩
  | _ => exact hd.elim
/-- what the dict d holds at k -/
@[simp] def atD (x kd : D) (P : Option D → Prop) : Prop := match x, kd with
  | .dS ds, .str k => P (getS ds k)
  | .dT ds, .tup ks => keyP ks fun k => P (getT ds k)
  | _, _ => False
theorem atD_get {K : PySem.W.Frag} {g : Gh} (h : Hold g) {v u : V} {x kd : D} {P : Option D → Prop} (r : Rep K g v x) (rk : Rep K g u kd) (w : atD x kd P) : ∃ a o od, v = .ref a ∧ IsD g.H a ∧ DGet g.H a u o ∧ P od ∧ (∀ d, od = some d → ∃ y, o = some y ∧ Rep K g y d) ∧ (od = none → o = none) := by
  cases r with
  | @dS a kvs ds hp rs =>
    cases rk with
    | str z =>
      obtain ⟨i1, i2⟩ := rs.get z
      exact ⟨a, _, getS ds z, rfl, .inl ⟨kvs, rd_hold h hp⟩, .inl ⟨kvs, Sum.inr z, rd_hold h hp, rfl, rfl⟩, w, fun d e => i1 d e, i2⟩
    | _ => exact w.elim
  | @dT a kvs ds hp rs =>
    cases rk with
    | @tup b vs ks hb rb =>
      obtain ⟨n, ns, rfl, w⟩ := w
      obtain ⟨i1, i2⟩ := rs.get (n :: ns)
      exact ⟨a, _, getT ds (n :: ns), rfl, .inr ⟨kvs, rd_hold h hp⟩, .inr ⟨kvs, kI (n :: ns), b, rd_hold h hp, rfl, key_at h hb rb, rfl⟩, w, fun d e => i1 d e, i2⟩
    | _ => exact w.elim
  | _ => cases rk <;> exact w.elim
/-- d.get(k, z) -/
@[simp] def dGetF2 (td tk tz : DT) : DT := fun ρ P Ex => td ρ (fun x => isDct x ∧ tk ρ (fun kd => tz ρ (fun z => atD x kd fun o => P (o.getD z)) Ex) Ex) Ex
@[simp] def dInD (n : Bool) (tk td : DT) : DB := fun ρ P Ex => tk ρ (fun kd => td ρ (fun x => atD x kd fun o => P (n ^^ o.isSome)) Ex) Ex
section
variable {X : Cx} {W : WX} {g0 : Gh} {k : Nat} {o key value : Expr} {td tk tz : DT} {apos pos : Pos}
theorem de_getF2 (C : Cn X W k) (ho : DE X W g0 o td) (hk : DE X W g0 key tk) (hv : DE X W g0 value tz) (m : M2 X o "get" apos key value pos := by exact ⟨rfl, rfl, rfl, rfl⟩) :
    DE X W g0 (.Call (.Attribute o "get" apos) [key, value] [] pos) (dGetF2 td tk tz) := PE.imp (pe_dget2 (hu_of C) ho hk hv m) fun σ H Q h => by
  obtain ⟨g, ρ, P, Ex, rfl, s0, en, t, q, xx⟩ := h
  refine ⟨g, ρ, _, _, rfl, s0, en, t, fun x hx v g1 s1 r1 => ?_, xx⟩
  obtain ⟨hd, hx⟩ := hx
  obtain ⟨a, rfl, isd⟩ := rd_isD s1.ok r1 hd
  refine ⟨a, rfl, isd, g1, ρ, _, _, rfl, s0.trans s1, en.step s1, hx, fun kd hkd u g2 s2 r2 => ?_, xx.step s1⟩
  refine ⟨g2, ρ, _, _, rfl, s0.trans (s1.trans s2), en.step (s1.trans s2), hkd, fun zd hz z g3 s3 r3 => ?_, xx.step (s1.trans s2)⟩
  obtain ⟨a', o, od, e1, _, e2, e3, e4, e5⟩ := atD_get s3.ok (r1.step (s2.trans s3)) (r2.step s3) hz
  cases e1
  refine ⟨o, e2, ?_⟩
  cases od with
  | none =>
    rw [e5 rfl]
    exact q _ e3 _ g3 (s1.trans (s2.trans s3)) r3
  | some d =>
    obtain ⟨y, rfl, ry⟩ := e4 d rfl
    exact q _ e3 _ g3 (s1.trans (s2.trans s3)) ry
theorem dt_inD (C : Cn X W k) (hk : DE X W g0 key tk) (ho : DE X W g0 o td) (hm : behindInMarks .In o = false := by with_unfolding_all rfl) : DTt X W g0 (.Compare key [.In] [o] pos) (dInD false tk td) := PT.imp (pt_cmp (pc_din (hu_of C) hk ho) hm) fun σ H Q h => by
  obtain ⟨g, ρ, P, Ex, rfl, s0, en, t, q, xx⟩ := h
  refine ⟨g, ρ, _, _, rfl, s0, en, t, fun kd hkd u g1 s1 r1 => ?_, xx⟩
  refine ⟨g1, ρ, _, _, rfl, s0.trans s1, en.step s1, hkd, fun x hx v g2 s2 r2 => ?_, xx.step s1⟩
  obtain ⟨a, o, od, e1, _, e2, e3, e4, e5⟩ := atD_get s2.ok r2 (r1.step s2) hx
  refine ⟨a, o, e1, e2, o.isSome, rfl, ?_⟩
  have e : o.isSome = (false ^^ od.isSome) := by
    cases od with
    | none => rw [e5 rfl]; rfl
    | some d => obtain ⟨y, rfl, _⟩ := e4 d rfl; rfl
  rw [e]
  exact q _ e3 g2 (s1.trans s2)
theorem dt_notinD (C : Cn X W k) (hk : DE X W g0 key tk) (ho : DE X W g0 o td) (hm : behindInMarks .NotIn o = false := by with_unfolding_all rfl) : DTt X W g0 (.Compare key [.NotIn] [o] pos) (dInD true tk td) := PT.imp (pt_cmp (pc_dnotin (hu_of C) hk ho) hm) fun σ H Q h => by
  obtain ⟨g, ρ, P, Ex, rfl, s0, en, t, q, xx⟩ := h
  refine ⟨g, ρ, _, _, rfl, s0, en, t, fun kd hkd u g1 s1 r1 => ?_, xx⟩
  refine ⟨g1, ρ, _, _, rfl, s0.trans s1, en.step s1, hkd, fun x hx v g2 s2 r2 => ?_, xx.step s1⟩
  obtain ⟨a, o, od, e1, _, e2, e3, e4, e5⟩ := atD_get s2.ok r2 (r1.step s2) hx
  refine ⟨a, o, e1, e2, !o.isSome, rfl, ?_⟩
  have e : (!o.isSome) = (true ^^ od.isSome) := by
    cases od with
    | none => rw [e5 rfl]; rfl
    | some d => obtain ⟨y, rfl, _⟩ := e4 d rfl; rfl
  rw [e]
  exact q _ e3 g2 (s1.trans s2)
end

/-! ### one's own list: x in it, removed from it (numbers) -/
@[simp] def dInO (i : Nat) (te : DT) : DB := fun ρ P Ex => (∃ ds, ρ[i]? = some (.ow (.lst ds))) ∧ te ρ (onI fun n => match ρ[i]? with
  | some (.ow (.lst ds)) => ∃ ns, nums ds = some ns ∧ P (decide (n ∈ ns))
  | _ => False) Ex
@[simp] def dRemO (i : Nat) (te : DT) : DS := fun ρ k => (∃ ds, ρ[i]? = some (.ow (.lst ds))) ∧ te ρ (onI fun n => match ρ[i]? with
  | some (.ow (.lst ds)) => ∃ ns, nums ds = some ns ∧ n ∈ ns ∧ k.nx (ρ.set i (.ow (.lst ((ns.erase n).map D.int))))
  | _ => False) (k.ex ρ)
section
variable {X : Cx} {W : WX} {g0 : Gh} {k : Nat} {e : Expr} {te : DT} {x : Str} {p pos : Pos}
theorem inV_ints (n : Int) : ∀ ns : List Int, inV (.int n) (ns.map V.int) = decide (n ∈ ns)
  | [] => rfl
  | m :: ns => by
    have ih := inV_ints n ns
    show (eqV (.int m) (.int n) || inV (.int n) (ns.map V.int)) = _
    rw [ih]
    have : eqV (.int m) (.int n) = decide (m = n) := by
      show (m == n) = _
      by_cases h : m = n <;> simp [h]
    rw [this]
    by_cases h : m = n
    · subst h; simp
    · have h' : ¬ n = m := fun z => h z.symm
      simp [h, h']
theorem flats_ints : ∀ ns : List Int, (ns.map V.int).all flatV = true
  | [] => rfl
  | m :: ns => by rw [List.map_cons, List.all_cons, flats_ints ns]; rfl
theorem dt_inO (i : Nat) (C : Cn X W k) (he : DE X W g0 e te) (hN : X.N[i]? = some x := by rfl) (hvs : Vis X.env.scope x := by first | exact Or.inl rfl | exact Or.inr (Or.inl rfl) | exact Or.inr (Or.inr rfl))
    (hd : (x == ("__debug__" : Str)) = false := by decide) (hcd : (x == ("__classdict__" : Str)) = false := by decide) (hm : behindInMarks .In (.Name x p) = false := by with_unfolding_all rfl) :
    DTt X W g0 (.Compare e [.In] [.Name x p] pos) (dInO i te) := PT.imp (pt_cmpR op_in_seq he (pe_var hN hvs hd hcd) hm) fun σ H Q h => by
  obtain ⟨g, ρ, P, Ex, rfl, s0, en, ⟨⟨ds0, h0⟩, t⟩, q, xx⟩ := h
  refine ⟨g, ρ, _, _, rfl, s0, en, t, fun d hd v g1 s1 r1 => ?_, xx⟩
  obtain ⟨n, rfl, hn⟩ := hd.out
  cases r1
  rw [h0] at hn
  obtain ⟨ns, e1, hn⟩ := hn
  have z := nums_eq e1
  subst z
  obtain ⟨a, vs, ha, hH, rs⟩ := (en.step s1).val h0
  have z2 := ints_of_reps rs
  subst z2
  refine ⟨.ref a, ha, a, _, rfl, .inl (SqL.of hH), rfl, flats_ints ns, decide (n ∈ ns), ?_, q _ hn g1 s1⟩
  show V.bl (if false = true then _ else _) = _
  rw [if_neg Bool.false_ne_true, inV_ints]
theorem dp_remO (i : Nat) {p2 p3 p4 : Pos} (he : DE X W g0 e te) (hN : X.N[i]? = some x := by rfl) (hv : Vis X.env.scope x := by first | exact Or.inl rfl | exact Or.inr (Or.inl rfl) | exact Or.inr (Or.inr rfl)) (hd : (x == ("__debug__" : Str)) = false := by decide)
    (hcd : (x == ("__classdict__" : Str)) = false := by decide) (hline : (p2.endLine == p3.line) = true := by rfl) (hsw : swapsWith (.Call (.Attribute (.Name x p) "remove" p2) [e] [] p3) none p4.line X.env = pure false := by rfl)
    (hbase : attributeBase (.Name x p) "remove" X.env (eval (.Name x p) X.env) = eval (.Name x p) X.env := by rfl)
    (hfew : ((backTo p3 (starEach [e] X.env)).all (fun x => !x.1) && (backToKw p3 (keywordEach [] X.env)).all (fun x => x.1.isSome) && decide ([e].length + ([] : List Keyword).length + (if ([] : List Keyword).isEmpty then 0 else 1) < 30)) = true := by rfl)
    (hs : starEach [e] X.env = (false, eval e X.env) :: starEach [] X.env := by rfl) (hpl : (backTo p3 (starEach [] X.env)).any (·.1) = false := by rfl) :
    DP X W g0 (.Expr (.Call (.Attribute (.Name x p) "remove" p2) [e] [] p3) p4) (dRemO i te) :=
  PS.imp (ps_expr (pe_bm PySem.F.plainAttrs_list PySem.F.slot_list_remove PySem.F.type_list_remove mt_remove (pe_var hN hv hd hcd) (pa_cons he pa_nil hs) hbase hfew hline hs hpl) hsw) fun E σ H h => by
    obtain ⟨g, ρ, k, rfl, s0, en, ⟨⟨ds0, h0⟩, t⟩, l⟩ := h
    obtain ⟨a, vs, ha, hH, rs⟩ := en.val h0
    refine ⟨.ref a, ha, .inl ⟨rfl, vs, SqL.of hH⟩, ?_⟩
    refine ⟨g, ρ, _, _, rfl, s0, en, t, fun d hd v g1 s1 r1 => ?_, l.xok s0 en⟩
    obtain ⟨n, rfl, hn⟩ := hd.out
    cases r1
    rw [h0] at hn
    obtain ⟨ns, e1, hmem, hn⟩ := hn
    have z := nums_eq e1
    subst z
    obtain ⟨a', vs', ha', hH', rs'⟩ := (en.step s1).val h0
    rw [ha] at ha'
    cases ha'
    have z2 := ints_of_reps rs'
    subst z2
    have hlt : ns.idxOf n < ns.length := List.idxOf_lt_length_iff.mpr hmem
    have ee : ns.eraseIdx (ns.idxOf n) = ns.erase n := by rw [List.erase_eq_eraseIdx_of_idxOf rfl]
    refine ⟨a, ns, n, ns.idxOf n, rfl, rfl, hH', ?_, fun m hm z => ?_, ?_⟩
    · rw [List.getElem?_eq_getElem hlt, List.getElem_idxOf hlt]
    · have h2 := (List.getElem?_eq_some_iff.mp z)
      obtain ⟨l1, l2⟩ := h2
      have := List.not_of_lt_findIdx (p := (· == n)) (xs := ns) (i := m) hm
      rw [l2] at this
      simp at this
    · obtain ⟨s2, e2⟩ := (en.step s1).write (o := .lst ((ns.erase n).map V.int)) (d' := .lst ((ns.erase n).map D.int)) (s0.trans s1) h0 ha ⟨_, upd_same, reps_ints _⟩
      rw [ee]
      exact l.nx _ _ _ s2 e2 hn
end
end AU

/-! AuTD8: over data: isinstance of an own class, of (list, tuple); sum of a tuple; max of three; neg; own == told with !=. -/
namespace AU
open PySem L2 PySem.Spec PyProof.Rows
/-- what isinstance(.., C) asks of the own class C -/
structure IsK (K : PySem.W.Frag) (mg : Str → Option Value) (x : Str) : Prop where
  ins : C8.InsC K (He.ga K x)
  no : ∀ T ∈ tyNs, PySem.W.kitOne K (.type T) (.ref (He.ga K x)) = some false
  gl : mg x = some (.ref (He.ga K x))
@[simp] def fIsC : D → (D → Prop) → Prop
  | .ch _ _, P => P (.bl true)
  | .non, P => P (.bl false)
  | .bl _, P => P (.bl false)
  | .int _, P => P (.bl false)
  | .str _, P => P (.bl false)
  | .tup _, P => P (.bl false)
  | .lst _, P => P (.bl false)
  | .dS _, P => P (.bl false)
  | .dT _, P => P (.bl false)
  | _, _ => False
section
variable {X : Cx} {W : WX} {g0 : Gh} {k : Nat} {e : Expr} {t : DT} {p p2 p3 pos tpos : Pos}
theorem de_isC (B : Bi X.mg) (I0 : IsK X.K X.mg "Chance") (he : DE X W g0 e t) (hg : Gl X "isinstance" := by rfl) (hg2 : Gl X "Chance" := by rfl)
    (hs : starEach [e, Expr.Name "Chance" p2] X.env = (false, eval e X.env) :: starEach [Expr.Name "Chance" p2] X.env := by rfl) (hs2 : starEach [Expr.Name "Chance" p2] X.env = (false, eval (Expr.Name "Chance" p2) X.env) :: starEach [] X.env := by rfl)
    (hpl : (backTo pos (starEach [Expr.Name "Chance" p2] X.env)).any (·.1) = false := by rfl) : DE X W g0 (.Call (.Name "isinstance" p) [e, .Name "Chance" p2] [] pos) (dOn fIsC t) := by
  refine ⟨fun pins s σ H Q I h => ?_⟩
  obtain ⟨g, ρ, P, Ex, rfl, s0, e0, w, q, x0⟩ := h
  have hb : bootBuiltins ("isinstance" : Str) = some (.builtin "isinstance") := by decide +kernel
  refine wpAny_Call_Name_kw (ld_blt I hg (B.at_ "isinstance") hb ?_)
  have hc : PE X (.Name "Chance" p2) (tC (.ref (He.ga X.K "Chance"))) := pe_glob hg2 I0.gl rfl (by decide)
  have ha := pa_cons he (pa_cons hc pa_nil hs2) hs
  refine PyProof.Rows.callWith_builtin1 (thn (ha.run pos pins s σ g.H (fun vs H1 => ∃ v d g1, vs = [v, .ref (He.ga X.K "Chance")] ∧ g1.H = H1 ∧ Step g g1 ∧ Rep X.K g1 v d ∧ fIsC d P) I
    ⟨g, ρ, _, Ex, rfl, s0, e0, w, fun d hd v g1 s1 r1 => ⟨v, d, g1, rfl, rfl, s1, r1, hd⟩, x0⟩) fun us s1 hh => ?_) hs hpl
  obtain ⟨vs, H1, I1, r1, v, d, g1, rfl, rfl, s1', rd, hP⟩ := hh
  obtain ⟨u1, u2, rfl, ru, rt⟩ := vals2 r1
  cases (show u2 = Value.ref (He.ga X.K "Chance") from rt)
  have plain : known d = true → P (.bl false) → wpAny (model X.prog X.w) X.A (call (.builtin "isinstance") [u1, .ref (He.ga X.K "Chance")]) (EP X pins σ Q) X.xe s1 := fun hk hP => by
    obtain ⟨Z, kk, p, hx⟩ := rep_kit I1 s1'.ok rd ru hk
    exact PySem.W.kia_one kk I1.kIn p (I0.no _ (known_mem hk)) hx fun tk => ⟨.bl false, g1.H, I1.tok tk, rfl, q _ hP _ g1 s1' (.bl _)⟩
  cases d with
  | ch tp bt =>
    cases rd with
    | ch ga gt gb =>
      exact C8.call_isC I0.ins pins s1 σ g1.H [.ref _, .ref (He.ga X.K "Chance")] _ Q I1 (.cons ru (.cons (show RelV (V.ref (He.ga X.K "Chance")) (Value.ref (He.ga X.K "Chance")) from rfl) .nil)) ⟨_, _, _, rfl, s1'.ok.ins ga, q _ hP _ g1 s1' (.bl _)⟩
  | non => exact plain rfl hP
  | bl _ => exact plain rfl hP
  | int _ => exact plain rfl hP
  | str _ => exact plain rfl hP
  | tup _ => exact plain rfl hP
  | lst _ => exact plain rfl hP
  | dS _ => exact plain rfl hP
  | dT _ => exact plain rfl hP
  | _ => exact hP.elim
/-- isinstance(e, (list, tuple)) -/
@[simp] def fIsLT : D → (D → Prop) → Prop := fun d P => known d = true ∧ P (.bl (isN (tyN d) "list" || isN (tyN d) "tuple"))
theorem kit_LT : (tyNs.all fun a => decide ((kitB a "list").isSome ∧ (kitB a "tuple").isSome)) = true := by decide +kernel
theorem any_LT {K : PySem.W.Frag} {a : String} (h : a ∈ tyNs) : PySem.W.kitAny K (.type a) [.type "list", .type "tuple"] = some (isN a "list" || isN a "tuple") := by
  have h1 := kit_at h (show "list" ∈ tyNs by decide)
  have h2 := kit_at h (show "tuple" ∈ tyNs by decide)
  refine kitAny_cons (kit_ty h1) (fun e => ?_) (fun e => by rw [e]; rfl)
  rw [e, Bool.false_or]
  exact kitAny_cons (kit_ty h2) (fun e => by rw [e]; exact kitAny_nil) (fun e => e)
theorem de_isLT (B : Bi X.mg) {kt} (he : DE X W g0 e t) (hg : Gl X "isinstance" := by rfl) (hg2 : Gl X "list" := by rfl) (hg3 : Gl X "tuple" := by rfl)
    (hs : starEach [e, Expr.Tuple [.Name "list" p2, .Name "tuple" p3] kt tpos] X.env = (false, eval e X.env) :: starEach [Expr.Tuple [.Name "list" p2, .Name "tuple" p3] kt tpos] X.env := by rfl)
    (hs2 : starEach [Expr.Tuple [.Name "list" p2, .Name "tuple" p3] kt tpos] X.env = (false, eval (Expr.Tuple [.Name "list" p2, .Name "tuple" p3] kt tpos) X.env) :: starEach [] X.env := by rfl)
    (hs3 : starEach [Expr.Name "list" p2, Expr.Name "tuple" p3] X.env = (false, eval (Expr.Name "list" p2) X.env) :: starEach [Expr.Name "tuple" p3] X.env := by rfl) (hs4 : starEach [Expr.Name "tuple" p3] X.env = (false, eval (Expr.Name "tuple" p3) X.env) :: starEach [] X.env := by rfl)
    (hpl : (backTo pos (starEach [Expr.Tuple [.Name "list" p2, .Name "tuple" p3] kt tpos] X.env)).any (·.1) = false := by rfl) : DE X W g0 (.Call (.Name "isinstance" p) [e, .Tuple [.Name "list" p2, .Name "tuple" p3] kt tpos] [] pos) (dOn fIsLT t) := by
  refine ⟨fun pins s σ H Q I h => ?_⟩
  obtain ⟨g, ρ, P, Ex, rfl, s0, e0, w, q, x0⟩ := h
  have hb : bootBuiltins ("isinstance" : Str) = some (.builtin "isinstance") := by decide +kernel
  refine wpAny_Call_Name_kw (ld_blt I hg (B.at_ "isinstance") hb ?_)
  have c1 : PE X (.Name "list" p2) (tC (.ty "list")) := pe_bltn hg2 (B.at_ "list") bt_list rfl (by decide) (by decide)
  have c2 : PE X (.Name "tuple" p3) (tC (.ty "tuple")) := pe_bltn hg3 (B.at_ "tuple") bt_tuple rfl (by decide) (by decide)
  have ha := pa_cons he (pa_cons (pe_tup (x1 := kt) (pos := tpos) (pa_cons c1 (pa_cons c2 pa_nil hs4) hs3)) pa_nil hs2) hs
  refine PyProof.Rows.callWith_builtin1 (thn (ha.run pos pins s σ g.H (fun vs H1 => ∃ v d T g1, vs = [v, .ref T] ∧ g1.H = H1 ∧ Step g g1 ∧ Rep X.K g1 v d ∧ fIsLT d P ∧ H1 T = some (.tup [.ty "list", .ty "tuple"])) I
    ⟨g, ρ, _, Ex, rfl, s0, e0, w, fun d hd v g1 s1 r1 => ⟨by show 2 ≤ sizeLine; decide, fun T hT => ?_⟩, x0⟩) fun us s1 hh => ?_) hs hpl
  · have s2 := s1.ok.new (.tup [.ty "list", .ty "tuple"]) hT
    exact ⟨v, d, T, g1.new T (.tup [.ty "list", .ty "tuple"]), rfl, rfl, s1.trans s2, r1.step s2, hd, upd_same⟩
  obtain ⟨vs, H1, I1, r1, v, d, T, g1, rfl, rfl, s1', rd, ⟨hk, hP⟩, hT⟩ := hh
  obtain ⟨u1, u2, rfl, ru, rt⟩ := vals2 r1
  cases (show u2 = Value.ref T from rt)
  obtain ⟨Z, kk, p, hx⟩ := rep_kit I1 s1'.ok rd ru hk
  obtain ⟨_, its, rv, o, h1, h2, n, h3⟩ := (show ObjOk X.prog X.w g1.H s1.heap T (.tup [.ty "list", .ty "tuple"]) from I1.hok T _ hT)
  obtain ⟨y1, y2, rfl, z1, z2⟩ := vals2 rv
  cases (show y1 = Value.type "list" from z1)
  cases (show y2 = Value.type "tuple" from z2)
  obtain ⟨oc, od, dt, sl⟩ := o
  simp only at h2 h3
  subst h2 h3
  exact PySem.W.kia_tup kk I1.kIn p h1 (any_LT (known_mem hk)) hx fun tk => ⟨.bl _, g1.H, I1.tok tk, rfl, q _ hP _ g1 s1' (.bl _)⟩
end
/-! ### sum of a tuple; max of three -/
@[simp] def fSumT : D → (D → Prop) → Prop
  | .tup ds, P => ∃ ns, nums ds = some ns ∧ P (.int ns.sum)
  | _, _ => False
abbrev rSumT (K : PySem.W.Frag) : List V → Hp → VK → Prop := fun xs H Q => ∃ (a : Addr) (ns : List Int), xs = [.ref a] ∧ SqT K H a (ns.map V.int) ∧ Q (.int ns.sum) H
section
variable {X : Cx} {W : WX} {g0 : Gh} {k : Nat} {e e2 e3 : Expr} {ts : DA} {p pos : Pos}
theorem cr_sumT (hc : X.calm = true) : CallR X (.builtin "sum") (rSumT X.K) := by
  intro pins s σ H vs us Q I r h
  obtain ⟨a, ns, rfl, hs, q⟩ := h
  obtain ⟨its, rv, hl, _⟩ := I.tuple hs
  rw [Vals.ref1 r]
  obtain ⟨xs, e⟩ := rv.ints.allInts.items
  have hn : numsOf (intItems xs).toList = ns := by rw [← e]; exact rv.ints.numsOf
  rw [nums_intItems] at hn
  rw [e] at hl
  refine PySem.W.ktm_sumG (I.ok.hd hc) hl fun h' tk t' hk => ?_
  rw [preSum_eq, List.take_of_length_le (by simp), hn]
  exact ⟨.int _, H, I.kept hk, ⟨_, rfl⟩, q⟩
theorem rel_sumT {K : PySem.W.Frag} : RelC K (rSumT K) (on1 fSumT) := by
  intro g0 g xs a P Q s rs w q
  cases rs with
  | nil => exact w.elim
  | cons r rs =>
    cases rs with
    | cons _ _ => exact w.elim
    | nil =>
      cases r with
      | @tup b vs ds hb rb =>
        obtain ⟨ns, h1, w⟩ := w
        have e := nums_eq h1
        subst e
        have z := ints_of_reps rb
        subst z
        exact ⟨b, ns, rfl, s.ok.sqT hb, q _ w _ g (Step.refl s.ok) (.int _)⟩
      | _ => exact w.elim
theorem dc_sumT (C : Cn X W k) (B : Bi X.mg) (ha : DPA X W g0 [e] ts) (hg : Gl X "sum" := by rfl) (he : starEach [e] X.env = (false, eval e X.env) :: starEach [] X.env := by rfl) (hpl : (backTo pos (starEach [] X.env)).any (·.1) = false := by rfl) :
    DE X W g0 (.Call (.Name "sum" p) [e] [] pos) (dB (on1 fSumT) ts) := de_callB (cr_sumT C.cm) rel_sumT (B.at_ "sum") bt_sum ha hg (by decide) (by decide) he hpl
@[simp] def fMax3 : List D → (D → Prop) → Prop
  | [.int i, .int j, .int m], P => P (.int (max (max i j) m))
  | _, _ => False
theorem rel_max3 {K : PySem.W.Frag} : RelC K (rNuC3 nuMax3) fMax3 := by
  intro g0 g xs a P Q s rs w q
  unfold fMax3 at w
  split at w
  · rename_i i j m
    cases rs with
    | cons r1 rs => cases rs with
      | cons r2 rs => cases rs with
        | cons r3 rs =>
          cases rs; cases r1; cases r2; cases r3
          have e : nuMax3 (.int i) (.int j) (.int m) = some (.int (max (max i j) m)) := by
            have m2 : ∀ x y : Int, nuMax2 (.int x) (.int y) = some (.int (max x y)) := fun x y => by
              by_cases h : x < y
              · have e : max x y = y := by omega
                rw [e]; simp [nuMax2, nuLt, nuCB, h]
              · have e : max x y = x := by omega
                rw [e]; simp [nuMax2, nuLt, nuCB, h]
            unfold nuMax3
            rw [m2]
            exact m2 _ _
          exact ⟨_, _, _, _, rfl, e, q _ w _ g (Step.refl s.ok) (.int _)⟩
  · exact w.elim
theorem dc_max3 (C : Cn X W k) (B : Bi X.mg) (ha : DPA X W g0 [e, e2, e3] ts) (hg : Gl X "max" := by rfl) (he : starEach [e, e2, e3] X.env = (false, eval e X.env) :: starEach [e2, e3] X.env := by rfl) (hpl : (backTo pos (starEach [e2, e3] X.env)).any (·.1) = false := by rfl) :
    DE X W g0 (.Call (.Name "max" p) [e, e2, e3] [] pos) (dB fMax3 ts) := de_callB (call_max3Nu C.cm) rel_max3 (B.at_ "max") bt_max ha hg (by decide) (by decide) he hpl
end
end AU

/-! AuTD9: methods of chances as the head has them; -x. -/
namespace AU
open PySem L2 PySem.Spec PyProof.Rows
/-- a method of the class x as it stands -/
def DfM (K : PySem.W.Frag) (st : Stmt) (x m qual : Str) : Prop := ∃ fd, FunD K m qual (defArgs st) (defBody st) (defScope st) [] [] (He.ma K (He.ga K x) m) fd ∧ Meth K (He.ga K x) m (He.ma K (He.ga K x) m)
theorem MtC.op {P : Program} {w : World} {K : PySem.W.Frag} {mg : Str → Option Value} {base : Heap} {j : Nat} {m : Str} {S : Spec} (h : MtC P w K mg base j m S) (sf : PySem.W.selfFirst K (He.ga K "Chance") = true) : OpC P w K mg base j m S := by
  obtain ⟨f, fd, ps, M, F, b⟩ := h
  exact ⟨f, fd, ps, M.at_, M.fn, sf, F, b⟩
theorem MtC.mono {P : Program} {w : World} {K : PySem.W.Frag} {mg : Str → Option Value} {base : Heap} {j k : Nat} {m : Str} {S : Spec} (h : MtC P w K mg base j m S) (hk : j ≤ k) : MtC P w K mg base k m S := by
  obtain ⟨f, fd, ps, M, F, b⟩ := h
  exact ⟨f, fd, ps, M, F.mono hk, b⟩
section
variable {X : Cx} {W : WX} {g0 : Gh} {k j : Nat} {S : Spec} {o e : Expr} {es : List Expr} {to : DT} {ts : DA} {m : Str} {apos pos : Pos}
theorem de_mt {pl : Sem Bool} (C : Cn X W k) (T : ChK X.K X.mg) (M : MtC X.prog X.w X.K X.mg X.base j m S) (hj : j ≤ k) (ho : DE X W g0 o to) (ha : DPA X W g0 (e :: es) ts)
    (h1 : ¬ m = "bottom" := by decide +kernel) (h2 : ¬ m = "top" := by decide +kernel) (hst : starEach (e :: es) X.env = (false, eval e X.env) :: starEach es X.env := by rfl) (hpl : (backTo pos (starEach es X.env)).any (·.1) = false := by rfl)
    (ht : eval (.Call (.Attribute o m apos) (e :: es) [] pos) X.env = (do
      let ov ← eval o X.env
      standAt apos.atName
      let (g, first) ← holding [ov] (getMethod ov m pl)
      callWith pos g first (backTo pos (starEach (e :: es) X.env)) (backToKw pos (keywordEach [] X.env))) := by rfl) : DE X W g0 (.Call (.Attribute o m apos) (e :: es) [] pos) (dMeth S to ts) := by
  obtain ⟨f, fd, ps, M, F, b⟩ := M
  exact de_meth C T M F hj b ho ha h1 h2 hst hpl ht
theorem de_mt0 {pl : Sem Bool} (C : Cn X W k) (T : ChK X.K X.mg) (M : MtC X.prog X.w X.K X.mg X.base j m S) (hj : j ≤ k) (ho : DE X W g0 o to)
    (h1 : ¬ m = "bottom" := by decide +kernel) (h2 : ¬ m = "top" := by decide +kernel)
    (ht : eval (.Call (.Attribute o m apos) [] [] pos) X.env = (do
      let ov ← eval o X.env
      standAt apos.atName
      let (g, first) ← holding [ov] (getMethod ov m pl)
      callWith pos g first (backTo pos (starEach [] X.env)) (backToKw pos (keywordEach [] X.env))) := by rfl) : DE X W g0 (.Call (.Attribute o m apos) [] [] pos) (dMeth S to dNil) := by
  obtain ⟨f, fd, ps, M, F, b⟩ := M
  exact de_meth0 C T M F hj b ho h1 h2 ht
/-- - x by its __neg__ -/
@[simp] def fNegC (S : Spec) : D → (D → Prop) → Prop := fun d P => isCh d = true ∧ S [d] P fun _ => False
theorem de_negC (C : Cn X W k) (F : OpC X.prog X.w X.K X.mg X.base j "__neg__" S) (hj : j ≤ k) (he : DE X W g0 e to) : DE X W g0 (.UnaryOp .USub e pos) (dUn (fNegC S) to) := by
  obtain ⟨f, fd, ps, hs, hf, hc, F, hbd⟩ := F
  have hun : UnR X (unaryOp .USub) (fun x H Q => ∃ (a dx : Addr) (fs : List (Str × V)), x = .ref a ∧ H a = some (.ins (He.ga X.K "Chance") dx fs) ∧ spD X.K S [x] H Q fun _ _ _ => False) := by
    intro pins s σ H x v Q I rx h
    obtain ⟨a, dx, fs, rfl, ha, q⟩ := h
    cases (show v = Value.ref a from rx)
    obtain ⟨mA, J, _⟩ := ins_get I.hok ha
    obtain ⟨od, J, _⟩ := J.look
    obtain ⟨m, hF⟩ := I.fr
    exact PySem.W.ksp_neg hF I.ok.mod.kin J hs hf (run_fnS (us := [.ref a]) (vs := [.ref a]) (E := fun _ _ _ _ => False) F (C.hr.mono hj) hbd no_pass I (.cons rfl .nil) q)
  exact PE.imp (pe_un hun he) fun σ H Q h => by
    obtain ⟨g, ρ, P, Ex, rfl, s0, e, w, q, x⟩ := h
    refine ⟨g, ρ, _, Ex, rfl, s0, e, w, fun d hd v g1 s1 r1 => ?_, x⟩
    obtain ⟨hc, hd⟩ := hd
    cases r1 with
    | ch ga gt gb => exact ⟨_, _, _, rfl, s1.ok.ins ga, g1, _, P, fun _ => False, rfl, s1.ok, .cons (.ch ga gt gb) .nil, hd, fun d hd v g2 s2 r2 => q d hd v g2 (s1.trans s2) r2, fun _ z => z.elim⟩
    | _ => cases hc
end
end AU

/-! AuTDa: sorted(parts), parts a list or a tuple of numbers; {} as a value. -/
namespace AU
open PySem L2 PySem.Spec PyProof.Rows
section
variable {prog : Program} {w : World} {B : Around} {Er : Value → Shared → Prop} {s : Shared}
/-- what is collected of a tuple: its items, in a new list -/
theorem collect_tup {a : Addr} {its : List Value} {Qv : List Value → Shared → Prop} (ht : s.heap.IsTuple a its.toArray) (few : its.length ≤ sizeLine)
    (fin : Qv its { s with heap := (s.heap.push (seqObj "list" #[] 0)).update s.heap.objs.size (Obj.mapSeq (· ++ its.toArray)) }) : wpAny (model prog w) B (collect (.ref a)) Qv Er s := by
  obtain ⟨ob, hob, cls, n, dat⟩ := id ht
  have old : (s.heap.push (seqObj "list" #[] 0)).get? a = some ob := Heap.get?_push_of_some _ hob
  have new : (s.heap.push (seqObj "list" #[] 0)).get? s.heap.objs.size = some (seqObj "list" #[] 0) := Heap.get?_push_size _ rfl
  unfold collect
  refine wpAny_bind (wpAny_runValue (codeAny_builtin entry_proto_collect' ?_))
  show wpAny _ _ (do again (.builtin "list.__iadd__" ⟨[← newList [], .ref a], []⟩)) _ _ s
  refine wpAny_bind (wpAny_newList (wpAny_pure ⟨Code.quiet_builtin _ (by decide +kernel), codeAny_builtin entry_list_iadd' ?_⟩))
  show wpAny _ _ (Builtin.List.listExtendWith (.ref s.heap.objs.size) (.ref a) (.ref s.heap.objs.size)) _ _ { s with heap := s.heap.push (seqObj "list" #[] 0) }
  unfold Builtin.List.listExtendWith
  refine wpAny_bind (wpAny_typeOf (T := "tuple") ⟨ob, old, cls⟩ ?_)
  have yes : (Value.type "tuple" == Value.type "tuple") = true := rfl
  rw [if_pos (by rw [yes]; simp)]
  refine wpAny_bind (listItems_at old dat (wpAny_bind (listItems_at (xs := #[]) (n := 0) new rfl ?_)))
  rw [if_neg (by simp)]
  refine wpAny_bind (listUpdate_at (xs := #[]) (n := 0) new rfl ?_ (Nat.zero_le _) (by show (#[] ++ its.toArray).size ≤ sizeLine + 1; simp only [Array.size_append, List.size_toArray, List.length_nil]; omega))
  refine wpAny_pure ?_
  refine wpAny_bind (wpAny_load (get?_update_seq new _) ?_)
  have e : ((#[] : Array Value) ++ its.toArray).toList = its := by simp
  refine wpAny_pure ?_
  rw [e]
  exact fin
end
section
variable {X : Cx}
abbrev rSortP (K : PySem.W.Frag) : List V → Hp → VK → Prop := fun xs H Q => ∃ (a : Addr) (ns : List Int), xs = [.ref a] ∧ SqT K H a (ns.map V.int) ∧ ∀ (ms : List Int) (p : Addr), ms.Perm ns → ms.Pairwise (· ≤ ·) → H p = none → Q (.ref p) (upd H p (.lst (ms.map V.int)))
theorem cr_sortP : CallR X (.builtin "sorted") (rSortP X.K) := by
  intro pins s σ H vs us Q I r h
  obtain ⟨a, ns, rfl, hs, q⟩ := h
  obtain ⟨its, rv, ht, hz⟩ := I.tuple hs
  rw [Vals.ref1 r]
  have hi := rv.ints
  have few : its.length ≤ sizeLine := by rw [← rv.length]; exact hz
  refine Calls.call_function_entry kind_sorted plain_sorted entry_sorted (args_sorted1 _) ?_
  unfold Builtin.«sorted»
  refine wpAny_bind (m := checkCount "sorted" 1 1 _) (wpAny_pure ?_)
  refine wpAny_bind (collect_tup ht few ?_)
  obtain ⟨h1, e1⟩ : ∃ h1, (s.heap.push (seqObj "list" #[] 0)).update s.heap.objs.size (Obj.mapSeq (· ++ its.toArray)) = h1 := ⟨_, rfl⟩
  rw [e1]
  have kp : ∀ b o, s.heap.get? b = some o → h1.get? b = some o := fun b o e => by
    rw [← e1, Heap.get?_update_ne _ _ _ _ (Nat.ne_of_lt (Heap.lt_size e))]
    exact Heap.get?_push_of_some _ e
  have sz1 : h1.objs.size = s.heap.objs.size + 1 := by rw [← e1, Heap.size_update, size_push']
  have I1 : Inv X pins σ H { s with heap := h1 } := I.kept (t' := s.toks) kp
  refine wpAny_bind (wpAny_newList ?_ few)
  have hoL : (h1.push (seqObj "list" its.toArray 0)).get? h1.objs.size = some (seqObj "list" its.toArray 0) := Heap.get?_push_size _ rfl
  show wpAny _ _ _ _ _ { s with heap := h1.push (seqObj "list" its.toArray 0) }
  refine wpAny_bind (wpAny_holding (wpAny_call_entry slot_list_sort ⟨_, hoL, rfl⟩ entry_list_sort
    (SrtO.list_sort_ord (s := { s with heap := h1.push (seqObj "list" its.toArray 0) }) SrtO.swo_int hoL few (fun h2 => SrtO.ints_sortable hi h2) fun out z1 z2 => ⟨_, rfl, ?_⟩) (args_list_sort _)))
  obtain ⟨k1, k2, k3⟩ := SrtO.ints_out hi z1 z2
  obtain ⟨ep, he⟩ := sortedHeap_at (vs := its) (out := out.toArray) hoL
  have hlen : ((out.map SrtO.iv).map V.int).length ≤ sizeLine := by
    rw [List.length_map, k2.length_eq]
    rw [List.length_map] at hz
    exact hz
  refine wpAny_pure ⟨_, rfl, .ref h1.objs.size, upd H h1.objs.size (.lst ((out.map SrtO.iv).map V.int)), I1.laid (t' := s.toks) (fun b u e => ?_) (Nat.le_refl _) ⟨hlen, out, ep, vals_of_ints k1, he⟩, rfl, q _ _ k2 k3 (I1.hok.fresh (Nat.le_refl _))⟩
  have hb' : b < h1.objs.size := Heap.lt_size e
  rw [sortedHeap_old (Nat.ne_of_lt hb') (by rw [size_push']; exact Nat.lt_succ_of_lt hb')]
  exact Heap.get?_push_of_some _ e
end
/-- sorted(parts) -/
@[simp] def fSortP : D → (D → Prop) → Prop
  | .lst ds, P => ∃ ns, nums ds = some ns ∧ ∀ ms : List Int, ms.Perm ns → ms.Pairwise (· ≤ ·) → P (.lst (ms.map D.int))
  | .tup ds, P => ∃ ns, nums ds = some ns ∧ ∀ ms : List Int, ms.Perm ns → ms.Pairwise (· ≤ ·) → P (.lst (ms.map D.int))
  | _, _ => False
theorem rel_sortP {K : PySem.W.Frag} : RelC K (fun xs H Q => rSortedI K xs H Q ∨ rSortP K xs H Q) (on1 fSortP) := by
  intro g0 g xs a P Q s rs w q
  cases rs with
  | nil => exact w.elim
  | cons r rs =>
    cases rs with
    | cons _ _ => exact w.elim
    | nil =>
      cases r with
      | @lst p vs ds hp rk =>
        obtain ⟨ns, h1, hw⟩ := w
        have e := nums_eq h1
        subst e
        refine .inl ⟨p, ns, rfl, SqL.of (by rw [← ints_of_reps rk]; exact s.ok.lst hp), fun ms l hpm hs hl => ?_⟩
        obtain ⟨s2, r2⟩ := newLst s.ok hl (reps_ints (K := K) ms)
        exact q _ (hw ms hpm hs) _ _ s2 r2
      | @tup p vs ds hp rk =>
        obtain ⟨ns, h1, hw⟩ := w
        have e := nums_eq h1
        subst e
        refine .inr ⟨p, ns, rfl, by rw [← ints_of_reps rk]; exact s.ok.sqT hp, fun ms l hpm hs hl => ?_⟩
        obtain ⟨s2, r2⟩ := newLst s.ok hl (reps_ints (K := K) ms)
        exact q _ (hw ms hpm hs) _ _ s2 r2
      | _ => exact w.elim
section
variable {X : Cx} {W : WX} {g0 : Gh} {k : Nat} {e : Expr} {ts : DA} {p pos : Pos}
theorem cr_sortPP : CallR X (.builtin "sorted") (fun xs H Q => rSortedI X.K xs H Q ∨ rSortP X.K xs H Q) := fun pins s σ H xs us Q I r h => h.elim (cr_sortedI pins s σ H xs us Q I r) (cr_sortP pins s σ H xs us Q I r)
theorem dc_sortP (B : Bi X.mg) (ha : DPA X W g0 [e] ts) (hg : Gl X "sorted" := by rfl) (he : starEach [e] X.env = (false, eval e X.env) :: starEach [] X.env := by rfl) (hpl : (backTo pos (starEach [] X.env)).any (·.1) = false := by rfl) :
    DE X W g0 (.Call (.Name "sorted" p) [e] [] pos) (dB (on1 fSortP) ts) := de_callB cr_sortPP rel_sortP (B.at_ "sorted") bt_sorted ha hg (by decide) (by decide) he hpl
/-- {} -/
theorem de_newT : DE X W g0 (.Dict [] [] pos) (dC (.dT [])) := PE.imp pe_dnewT fun σ H Q h => by
  obtain ⟨g, ρ, P, Ex, rfl, s0, e, w, q, x⟩ := h
  intro p hp
  have s := s0.ok.new (.dT []) hp
  exact q _ w _ _ s (.dT (show upd g.G p _ p = _ from upd_same) .nil)
end
end AU

/-! AuTDb: the rules bundled. -/
namespace AU
end AU

/-! AuZ: zip of three tuples. -/
namespace AU
open PySem L2 PySem.Spec PyProof.Rows
/-- the tuples at a, b, c as they stand at each turn, the items in new triples -/
def Itz3 (K : PySem.W.Frag) (n : Nat) (a b c : Addr) : It :=
  ⟨fun i H => ∃ (xs ys zs : List V) (x y z : V), SqT K H a xs ∧ SqT K H b ys ∧ SqT K H c zs ∧ (xs.length = n ∧ ys.length = n ∧ zs.length = n) ∧ xs[i]? = some x ∧ ys[i]? = some y ∧ zs[i]? = some z,
    fun i H v H' => ∃ T x y z, v = .ref T ∧ H T = none ∧ H' = upd H T (.tup [x, y, z]) ∧ (∀ xs, SqT K H a xs → xs[i]? = some x) ∧ (∀ ys, SqT K H b ys → ys[i]? = some y) ∧ ∀ zs, SqT K H c zs → zs[i]? = some z,
    fun i H => ∃ xs ys zs : List V, SqT K H a xs ∧ SqT K H b ys ∧ SqT K H c zs ∧ (xs.length = n ∧ ys.length = n ∧ zs.length = n) ∧ n ≤ i⟩
theorem tup_iter_ne {h : Heap} {a i : Addr} {k : Nat} {xs : Array Value} (hi : h.IsTupleIter i a k) (p : h.IsTuple a xs) : a ≠ i := fun e => by
  obtain ⟨o, ho, c1, _⟩ := hi
  obtain ⟨o', ho', c1', _⟩ := p
  rw [e, ho] at ho'
  cases ho'
  rw [c1] at c1'
  exact absurd (Value.type.inj c1') (by decide +kernel)
theorem turn_zip3 {P : Program} {w : World} {K : PySem.W.Frag} {elts : List Expr} {kk : Nat} {tpos : Pos} {n : Nat} {a b c z TI TO i1 i2 i3 : Addr} (D : ZipSep3 z TI TO i1 i2 i3 [i1, a] [i2, b] [i3, c]) :
    Turn P w K (.Tuple elts kk tpos) (Itz3 K n a b c) [z, TI, TO, i1, i2, i3] z (fun i h => i ≤ n ∧ IsZip h z TI TO .none ∧ IsTupOf3 h TI (.ref i1) (.ref i2) (.ref i3) ∧ (∃ x y w, IsTupOf3 h TO x y w) ∧ h.IsTupleIter i1 a i ∧ h.IsTupleIter i2 b i ∧ h.IsTupleIter i3 c i) where
  mem := by simp
  obj := fun i h st e hc => by
    obtain ⟨_, hz, hTI, ⟨x, y, w', hTO⟩, ⟨o1, e1, _, d1⟩, ⟨o2, e2, _, d2⟩, ⟨o3, e3, _, d3⟩⟩ := st
    have e' : e = z ∨ e = TI ∨ e = TO ∨ e = i1 ∨ e = i2 ∨ e = i3 := by simpa using hc
    rcases e' with q | q | q | q | q | q
    · rw [q]; exact ⟨_, hz, fun v q => nomatch q⟩
    · rw [q]; exact ⟨_, hTI, fun v q => nomatch q⟩
    · rw [q]; exact ⟨_, hTO, fun v q => nomatch q⟩
    · rw [q]; exact ⟨o1, e1, fun v q => by rw [d1] at q; cases q⟩
    · rw [q]; exact ⟨o2, e2, fun v q => by rw [d2] at q; cases q⟩
    · rw [q]; exact ⟨o3, e3, fun v q => by rw [d3] at q; cases q⟩
  keep := fun i h h' st k => by
    obtain ⟨hi, hz, hTI, ⟨x, y, w', hTO⟩, h1, h2, h3⟩ := st
    exact ⟨hi, k z (by simp) _ hz, k TI (by simp) _ hTI, ⟨x, y, w', k TO (by simp) _ hTO⟩, h1.at fun o q => k i1 (by simp) o q, h2.at fun o q => k i2 (by simp) o q, h3.at fun o q => k i3 (by simp) o q⟩
  item := by
    intro X hP hw hK hc i pins s σ H E I hf st hg
    subst hP hw hK
    obtain ⟨hi, hz, hTI, ⟨x0, y0, w0, hTO⟩, h1, h2, h3⟩ := st
    obtain ⟨xs, ys, zs, x, y, zz, hqx, hqy, hqz, ⟨ln1, ln2, ln3⟩, hx, hy, hzz⟩ := hg
    obtain ⟨its, rv, p, _⟩ := I.tuple hqx
    obtain ⟨its2, rv2, p2, _⟩ := I.tuple hqy
    obtain ⟨its3, rv3, p3, _⟩ := I.tuple hqz
    obtain ⟨u, hu, ru⟩ := rv.get hx
    obtain ⟨u2, hu2, ru2⟩ := rv2.get hy
    obtain ⟨u3, hu3, ru3⟩ := rv3.get hzz
    have hzl : z < s.heap.objs.size := Heap.lt_size hz
    have hh : X.A.in1.handled = none := I.ok.hd hc
    have n1 : a ≠ i1 := tup_iter_ne h1 p
    have n2 : b ≠ i2 := tup_iter_ne h2 p2
    have n3 : c ≠ i3 := tup_iter_ne h3 p3
    have g1 : its.toArray[i]? = some u := by simpa using hu
    have g2 : its2.toArray[i]? = some u2 := by simpa using hu2
    have g3 : its3.toArray[i]? = some u3 := by simpa using hu3
    have lt1 := (Array.getElem?_eq_some_iff.mp g1).1
    have lt2 := (Array.getElem?_eq_some_iff.mp g2).1
    have lt3 := (Array.getElem?_eq_some_iff.mp g3).1
    refine wpAny_pyNext_zipD3_item (prog := X.prog) (w := X.w) D (Draws.tuple hh i1 a n1 its.toArray) (Draws.tuple hh i2 b n2 its2.toArray) (Draws.tuple hh i3 c n3 its3.toArray) hz hTI hTO ⟨h1, p⟩ ⟨h2, p2⟩ ⟨h3, p3⟩ lt1 lt2 lt3
      fun x1 x2 x3 h' tk y1 y2 y3 z' TO' h1' h2' h3' hT hsz hk => ?_
    rw [g1] at y1
    rw [g2] at y2
    rw [g3] at y3
    cases y1; cases y2; cases y3
    refine ⟨_, rfl, wpAny_letOwnedTupleGo_zip (s := { s with heap := h', toks := tk }) z' fun h'' z'' sb => ?_⟩
    have hT2 : h''.get? s.heap.objs.size = some { cls := .type "tuple", data := .seq #[u, u2, u3] } := (sb.2 _ (Nat.ne_of_gt hzl)).trans hT
    have new : ObjOk X.prog X.w (upd H s.heap.objs.size (.tup [x, y, zz])) h'' s.heap.objs.size (.tup [x, y, zz]) :=
      ⟨by show 3 ≤ sizeLine; decide, [u, u2, u3], .cons ru (.cons ru2 (.cons ru3 .nil)), ⟨_, hT2, rfl, _, rfl⟩⟩
    have I1 : Inv X pins σ (upd H s.heap.objs.size (.tup [x, y, zz])) { s with heap := h'', toks := tk } :=
      I.turnedNew (t' := tk) (ch := [z, TI, TO, i1, i2, i3]) (fun c o hb q => (sb.2 c (fun q' => hb (by simp [q']))).trans (hk c o (fun q' => hb (by simp [q'])) (fun q' => hb (by simp [q'])) (fun q' => hb (by simp [q'])) (fun q' => hb (by simp [q'])) (fun q' => hb (by simp [q'])) q)) hf (Nat.le_refl _) new
    refine ⟨.ref s.heap.objs.size, _, I1, rfl, ⟨_, x, y, zz, rfl, I.hok.fresh (Nat.le_refl _), rfl, fun l hl => by rw [I.tuple_inj hl hqx]; exact hx, fun l hl => by rw [I.tuple_inj hl hqy]; exact hy, fun l hl => by rw [I.tuple_inj hl hqz]; exact hzz⟩, ⟨?_, z'', ?_, ⟨u, u2, u3, ?_⟩, ?_, ?_, ?_⟩, fun c hcm => ?_⟩
    · have := (List.getElem?_eq_some_iff.mp hx).1
      omega
    · exact (sb.2 _ D.TIz).trans (hk _ _ D.TIz D.TITO D.TIi1 D.TIi2 D.TIi3 hTI)
    · exact (sb.2 _ D.TOz).trans TO'
    · exact h1'.1.at fun o q => (sb.2 _ D.zi1.symm).trans q
    · exact h2'.1.at fun o q => (sb.2 _ D.zi2.symm).trans q
    · exact h3'.1.at fun o q => (sb.2 _ D.zi3.symm).trans q
    · have hlt : c < s.heap.objs.size := by
        have e' : c = z ∨ c = TI ∨ c = TO ∨ c = i1 ∨ c = i2 ∨ c = i3 := by simpa using hcm
        rcases e' with q | q | q | q | q | q
        · rw [q]; exact hzl
        · rw [q]; exact Heap.lt_size hTI
        · rw [q]; exact Heap.lt_size hTO
        · rw [q]; obtain ⟨_, e1, _⟩ := h1; exact Heap.lt_size e1
        · rw [q]; obtain ⟨_, e2, _⟩ := h2; exact Heap.lt_size e2
        · rw [q]; obtain ⟨_, e2, _⟩ := h3; exact Heap.lt_size e2
      rw [upd_ne (Nat.ne_of_lt hlt)]
      exact (hf c hcm).1
  done := by
    intro X hP hw hK hc i pins s σ H E I hf st hg
    subst hP hw hK
    obtain ⟨hi, hz, hTI, ⟨x0, y0, w0, hTO⟩, h1, h2, h3⟩ := st
    obtain ⟨xs, ys, zs, hqx, hqy, hqz, ⟨ln1, ln2, ln3⟩, hend⟩ := hg
    obtain ⟨its, rv, p, _⟩ := I.tuple hqx
    obtain ⟨its2, rv2, p2, _⟩ := I.tuple hqy
    obtain ⟨its3, rv3, p3, _⟩ := I.tuple hqz
    have l1 := rv.length
    have l2 := rv2.length
    have l3 := rv3.length
    have hh : X.A.in1.handled = none := I.ok.hd hc
    have n1 : a ≠ i1 := tup_iter_ne h1 p
    have n2 : b ≠ i2 := tup_iter_ne h2 p2
    have n3 : c ≠ i3 := tup_iter_ne h3 p3
    exact wpAny_pyNext_zipD3_end (prog := X.prog) (w := X.w) D (Draws.tuple hh i1 a n1 its.toArray) (Draws.tuple hh i2 b n2 its2.toArray) (Draws.tuple hh i3 c n3 its3.toArray) hz hTI hTO ⟨h1, p⟩ ⟨h2, p2⟩ ⟨h3, p3⟩
      (by simp; omega) (by simp; omega) (by simp; omega) (by simp; omega) fun h' tk hk => ⟨rfl, I.turnedL (t' := tk) (ch := [z, TI, TO, i1, i2, i3]) (fun c o hb q =>
      hk c o (fun q' => hb (by simp [q'])) (fun q' => hb (by simp [q'])) (fun q' => hb (by simp [q'])) (fun q' => hb (by simp [q'])) (fun q' => hb (by simp [q'])) q) hf⟩
  self := fun A i s Q E st h => wpAny_pyIter_zip st.2.1 h
@[simp] theorem dgLst_eq (t : DGs) (d : D) (ρ : Rho) (Q : Rho → Prop) : dgLst t d ρ Q = match d with | .lst ds => t ds ρ Q | _ => False := rfl
abbrev iZipB (K : PySem.W.Frag) (ta : TA) : TI := fun σ H R => ta σ H fun vs H1 => ∃ a b c xs ys zs, vs = [.ref a, .ref b, .ref c] ∧ SqT K H1 a xs ∧ SqT K H1 b ys ∧ SqT K H1 c zs ∧ (∃ n, xs.length = n ∧ ys.length = n ∧ zs.length = n ∧ R (Itz3 K n a b c) H1)
theorem pi_zip3 {X : Cx} {e e2 e3 : Expr} {ta : TA} {p pos tpos : Pos} {elts : List Expr} {kk : Nat} (hg : Gl X "zip") (hm : X.mg "zip" = none) (ha : PA X [e, e2, e3] ta)
    (hs : starEach [e, e2, e3] X.env = (false, eval e X.env) :: starEach [e2, e3] X.env := by rfl) (hpl : (backTo pos (starEach [e2, e3] X.env)).any (·.1) = false := by rfl) :
    PI X (.Tuple elts kk tpos) (.Call (.Name "zip" p) [e, e2, e3] [] pos) (iZipB X.K ta) := by
  refine ⟨fun pins s σ H R I h => ?_⟩
  refine Call_ (ld_blt I hg hm PyProof.Rows.boot_zip (PyProof.Rows.callWith_type1 (thn (ha.run pos pins s σ H _ I h) fun us s1 ⟨vs, H1, I1, r1, q1⟩ => ?_) hs hpl))
  obtain ⟨a, b, c, xs, ys, zs, ex, hqx, hqy, hqz, n, en1, en2, en3, q⟩ := q1
  subst ex
  cases r1 with
  | cons r rr =>
    cases rr with
    | cons r' rr =>
      cases rr with
      | cons r'' rr =>
        cases rr
        cases r
        cases r'
        cases r''
        have fresh6 : ∀ d, d ∈ [s1.heap.objs.size + 5, s1.heap.objs.size + 3, s1.heap.objs.size + 4, s1.heap.objs.size, s1.heap.objs.size + 1, s1.heap.objs.size + 2] → FpOk X pins H1 d := fun d hcm => by
          have e' : d = s1.heap.objs.size + 5 ∨ d = s1.heap.objs.size + 3 ∨ d = s1.heap.objs.size + 4 ∨ d = s1.heap.objs.size ∨ d = s1.heap.objs.size + 1 ∨ d = s1.heap.objs.size + 2 := by simpa using hcm
          have hle : s1.heap.objs.size ≤ d := by
            rcases e' with z | z | z | z | z | z
            · rw [z]; exact Nat.le_add_right _ _
            · rw [z]; exact Nat.le_add_right _ _
            · rw [z]; exact Nat.le_add_right _ _
            · rw [z]; exact Nat.le_refl _
            · rw [z]; exact Nat.le_add_right _ _
            · rw [z]; exact Nat.le_add_right _ _
          exact I1.fpOk hle (I1.hok.fresh hle)
        obtain ⟨its, rv, p1, _⟩ := I1.tuple hqx
        obtain ⟨its2, rv2, p2, _⟩ := I1.tuple hqy
        obtain ⟨its3, rv3, p3, _⟩ := I1.tuple hqz
        obtain ⟨o1, ho1, _⟩ := id p1
        obtain ⟨o2, ho2, _⟩ := id p2
        obtain ⟨o3, ho3, _⟩ := id p3
        refine zip_begins3 (begins_tuple a its.toArray) (begins_tuple b its2.toArray) (begins_tuple c its3.toArray) (show s1.heap.IsTuple a its.toArray from p1) (show s1.heap.IsTuple b its2.toArray from p2) (show s1.heap.IsTuple c its3.toArray from p3) fun h' hz hTI hTO g1 g2 g3 hsz hk => wpAny_pyIter_zip hz ?_
        have I2 : Inv X pins σ H1 { s1 with heap := h' } := I1.kept (t' := s1.toks) hk
        have one : ∀ {x : Addr}, x < s1.heap.objs.size → ∀ y ∈ [x], y < s1.heap.objs.size := fun {x} hx y hy => by
          have : y = x := by simpa using hy
          rw [this]; exact hx
        exact ⟨s1.heap.objs.size + 5, [s1.heap.objs.size + 5, s1.heap.objs.size + 3, s1.heap.objs.size + 4, s1.heap.objs.size, s1.heap.objs.size + 1, s1.heap.objs.size + 2], _, _, H1, rfl, I2,
          turn_zip3 (zip_sep3 (one (Heap.lt_size ho1)) (one (Heap.lt_size ho2)) (one (Heap.lt_size ho3))), ⟨Nat.zero_le _, hz, hTI, ⟨_, _, _, hTO⟩, ⟨_, g1, rfl, rfl⟩, ⟨_, g2, rfl, rfl⟩, ⟨_, g3, rfl, rfl⟩⟩, fresh6, q⟩
/-! ### over data -/
def zip3D : List D → List D → List D → List D
  | x :: a, y :: b, z :: c => .tup [x, y, z] :: zip3D a b c
  | _, _, _ => []
def iZip3 (ts : DA) : DIt := fun ρ P Ex => ts ρ (fun ds => match ds with
  | [.tup a, .tup b, .tup c] => a.length = b.length ∧ a.length = c.length ∧ P (zip3D a b c)
  | _ => False) Ex
theorem zip3_get : ∀ {a b c : List D} {i : Nat} {d : D}, (zip3D a b c)[i]? = some d → ∃ x y z, a[i]? = some x ∧ b[i]? = some y ∧ c[i]? = some z ∧ d = .tup [x, y, z]
  | x :: a, y :: b, z :: c, 0, d, h => by
    have : D.tup [x, y, z] = d := by simpa [zip3D] using h
    exact ⟨x, y, z, rfl, rfl, rfl, this.symm⟩
  | x :: a, y :: b, z :: c, i + 1, d, h => by
    obtain ⟨u, v, w, h1, h2, h3, h4⟩ := zip3_get (a := a) (b := b) (c := c) (i := i) (d := d) (by simpa [zip3D] using h)
    exact ⟨u, v, w, by simpa using h1, by simpa using h2, by simpa using h3, h4⟩
  | [], _, _, _, _, h => by simp [zip3D] at h
  | _ :: _, [], _, _, _, h => by simp [zip3D] at h
  | _ :: _, _ :: _, [], _, _, h => by simp [zip3D] at h
theorem zip3_len : ∀ {a b c : List D}, a.length = b.length → a.length = c.length → (zip3D a b c).length = a.length
  | [], _, _, _, _ => by simp [zip3D]
  | x :: a, [], _, h, _ => by cases h
  | x :: a, y :: b, [], _, h => by cases h
  | x :: a, y :: b, z :: c, h1, h2 => by
    have := zip3_len (a := a) (b := b) (c := c) (by simpa using h1) (by simpa using h2)
    simp [zip3D, this]
theorem yields_zip3 {K : PySem.W.Frag} {gb : Gh} {n : Nat} {a b c : Addr} {xs ys zs : List V} {ds es fs : List D} (ha : TpAt K gb.G a xs) (hb : TpAt K gb.G b ys) (hc : TpAt K gb.G c zs) (ra : ∀ g, Step gb g → Reps K g xs ds) (rb : ∀ g, Step gb g → Reps K g ys es) (rc : ∀ g, Step gb g → Reps K g zs fs)
    (l1 : ds.length = n) (l2 : es.length = n) (l3 : fs.length = n) : Yields K (Itz3 K n a b c) gb (zip3D ds es fs) := fun g s i => by
  have la : SqT K g.H a xs := s.ok.sqT (TpAt.up ha s.gs)
  have lb : SqT K g.H b ys := s.ok.sqT (TpAt.up hb s.gs)
  have lc : SqT K g.H c zs := s.ok.sqT (TpAt.up hc s.gs)
  have r1 := ra g s
  have r2 := rb g s
  have r3 := rc g s
  have q : xs.length = n ∧ ys.length = n ∧ zs.length = n := ⟨r1.length.trans l1, r2.length.trans l2, r3.length.trans l3⟩
  refine ⟨fun d hd => ?_, fun h => ⟨xs, ys, zs, la, lb, lc, q, by rw [zip3_len (by omega) (by omega)] at h; omega⟩⟩
  obtain ⟨x, y, z, h1, h2, h3, rfl⟩ := zip3_get hd
  obtain ⟨v1, e1, q1⟩ := r1.get h1
  obtain ⟨v2, e2, q2⟩ := r2.get h2
  obtain ⟨v3, e3, q3⟩ := r3.get h3
  refine ⟨⟨xs, ys, zs, v1, v2, v3, la, lb, lc, q, e1, e2, e3⟩, fun v H' hy => ?_⟩
  obtain ⟨T, u1, u2, u3, rfl, hT, rfl, f1, f2, f3⟩ := hy
  have z1 := f1 xs la
  have z2 := f2 ys lb
  have z3 := f3 zs lc
  rw [e1] at z1
  rw [e2] at z2
  rw [e3] at z3
  cases z1; cases z2; cases z3
  obtain ⟨s2, r⟩ := newTup s.ok hT (.cons q1 (.cons q2 (.cons q3 .nil)))
  exact ⟨_, rfl, s2, r⟩
section
variable {X : Cx} {W : WX} {g0 : Gh}
theorem di_zip3 {a b c : Expr} {ts : DA} {p pos tpos : Pos} {elts : List Expr} {kk : Nat} (B : Bi X.mg) (ha : DPA X W g0 [a, b, c] ts) (hg : Gl X "zip" := by rfl)
    (hs : starEach [a, b, c] X.env = (false, eval a X.env) :: starEach [b, c] X.env := by rfl) (hpl : (backTo pos (starEach [b, c] X.env)).any (·.1) = false := by rfl) :
    DI X W g0 (.Tuple elts kk tpos) (.Call (.Name "zip" p) [a, b, c] [] pos) (iZip3 ts) :=
  PI.imp (pi_zip3 hg (B.at_ "zip") ha hs hpl) fun σ H R h => by
    obtain ⟨g, ρ, P, Ex, rfl, s0, e, w, q, x⟩ := h
    refine ⟨g, ρ, _, _, rfl, s0, e, w, fun ds hd vs g1 s1 r1 => ?_, x⟩
    split at hd
    · rename_i da db dc
      obtain ⟨n1, n2, hd⟩ := hd
      cases r1 with
      | cons r rs => cases rs with
        | cons r' rs => cases rs with
          | cons r'' rs =>
            cases rs
            cases r with
            | tup ha ra => cases r' with
              | tup hb rb => cases r'' with
                | tup hc rc =>
                  exact ⟨_, _, _, _, _, _, rfl, s1.ok.sqT ha, s1.ok.sqT hb, s1.ok.sqT hc, da.length, ra.length, by rw [rb.length]; omega, by rw [rc.length]; omega,
                    q _ hd _ g1 s1 (yields_zip3 (gb := g0.re g1) ha hb hc (fun g s => Reps.up (g := g1) s.gs s.ms ra) (fun g s => Reps.up (g := g1) s.gs s.ms rb) (fun g s => Reps.up (g := g1) s.gs s.ms rc) rfl (by omega) (by omega))⟩
    · exact hd.elim
end
end AU

/-! AuZ2: list(d), sorted(texts), enumerate(list). -/
namespace AU
open PySem L2 PySem.Spec PyProof.Rows
/-- list(d), d a dict with texts as keys -/
@[simp] def fListD : D → (D → Prop) → Prop
  | .dS kvs, P => P (.lst (keyS kvs))
  | _, _ => False
def strsD : List D → Option (List Str)
  | [] => some []
  | .str x :: r => (strsD r).map (x :: ·)
  | _ :: _ => none
@[simp] theorem strsD_map : ∀ xs : List Str, strsD (xs.map D.str) = some xs
  | [] => rfl
  | x :: r => by show (strsD (r.map D.str)).map (x :: ·) = _; rw [strsD_map r]; rfl
theorem strsD_eq : ∀ {ds : List D} {xs : List Str}, strsD ds = some xs → ds = xs.map D.str
  | [], xs, h => by cases h; rfl
  | .str x :: r, xs, h => by
    obtain ⟨ys, h1, h2⟩ := Option.map_eq_some_iff.mp h
    subst h2
    rw [strsD_eq h1]
    rfl
  | .non :: _, _, h => by cases h
  | .bl _ :: _, _, h => by cases h
  | .int _ :: _, _, h => by cases h
  | .tup _ :: _, _, h => by cases h
  | .lst _ :: _, _, h => by cases h
  | .dS _ :: _, _, h => by cases h
  | .dT _ :: _, _, h => by cases h
  | .ch _ _ :: _, _, h => by cases h
  | .drw :: _, _, h => by cases h
  | .scr _ :: _, _, h => by cases h
  | .adr _ :: _, _, h => by cases h
/-- sorted(xs), fewer than 64 texts -/
@[simp] def fSortS : D → (D → Prop) → Prop
  | .lst ds, P => ∃ xs, strsD ds = some xs ∧ xs.length < 64 ∧ ∀ ys : List Str, ys.Perm xs → sortedS ys = true → P (.lst (ys.map D.str))
  | _, _ => False
section
variable {K : PySem.W.Frag}
theorem repK_kV {g : Gh} : ∀ {vs : List (Key × V)} {kvs : List (Str × D)}, RepK K g vs kvs → (vs.map fun kv => kV kv.1) = (kvs.map (·.1)).map V.str
  | _, _, .nil => rfl
  | _, _, .cons r rs => by rw [List.map_cons, List.map_cons, List.map_cons, repK_kV rs]; rfl
theorem rel_listD : RelC K (fun xs H Q => ∃ (a : Addr) (kvs : List (Key × V)), xs = [.ref a] ∧ Rd H a (.dK kvs) ∧ ∀ p, H p = none → Q (.ref p) (upd H p (.lst (kvs.map fun kv => kV kv.1)))) (on1 fListD) := by
  intro g0 g xs a P Q s rs w q
  cases rs with
  | nil => exact w.elim
  | cons r rs =>
    cases rs with
    | cons _ _ => exact w.elim
    | nil =>
      cases r with
      | @dS p vs ds hp rk =>
        refine ⟨p, vs, rfl, rd_hold s.ok hp, fun l hl => ?_⟩
        rw [repK_kV rk]
        have e : keyS ds = (ds.map (·.1)).map D.str := by unfold keyS; rw [List.map_map]; rfl
        obtain ⟨s2, r2⟩ := newLst s.ok hl (reps_strs (K := K) (ds.map (·.1)))
        exact q _ (by rw [← e]; exact w) _ _ s2 r2
      | _ => exact w.elim
theorem rel_sortS : RelC K (rSortedS K) (on1 fSortS) := by
  intro g0 g xs a P Q s rs w q
  cases rs with
  | nil => exact w.elim
  | cons r rs =>
    cases rs with
    | cons _ _ => exact w.elim
    | nil =>
      cases r with
      | @lst p vs ds hp rk =>
        obtain ⟨xs, h1, h64, hw⟩ := w
        have e := strsD_eq h1
        subst e
        refine ⟨p, xs, rfl, SqL.of (by rw [← strs_of_reps rk]; exact s.ok.lst hp), h64, fun ms l hpm hs hl => ?_⟩
        obtain ⟨s2, r2⟩ := newLst s.ok hl (reps_strs (K := K) ms)
        exact q _ (hw ms hpm hs) _ _ s2 r2
      | _ => exact w.elim
end
def enumD : Nat → List D → List D
  | _, [] => []
  | i, d :: r => .tup [.int i, d] :: enumD (i + 1) r
def iEnumD (ts : DA) : DIt := fun ρ P Ex => ts ρ (fun ds => match ds with
  | [.lst a] => P (enumD 0 a)
  | _ => False) Ex
theorem enum_get : ∀ {a : List D} {j i : Nat} {d : D}, (enumD j a)[i]? = some d → ∃ x, a[i]? = some x ∧ d = .tup [.int ((j + i : Nat) : Int), x]
  | x :: a, j, 0, d, h => by
    have : D.tup [.int (j : Int), x] = d := by simpa [enumD] using h
    exact ⟨x, rfl, this.symm⟩
  | x :: a, j, i + 1, d, h => by
    obtain ⟨u, h1, h2⟩ := enum_get (a := a) (j := j + 1) (i := i) (d := d) (by simpa [enumD] using h)
    exact ⟨u, by simpa using h1, by rw [h2, show j + 1 + i = j + (i + 1) by omega]⟩
  | [], _, _, _, h => by simp [enumD] at h
theorem enum_len : ∀ {a : List D} {j : Nat}, (enumD j a).length = a.length
  | [], _ => rfl
  | x :: a, j => by rw [enumD, List.length_cons, List.length_cons, enum_len]
theorem yields_enum {K : PySem.W.Frag} {gb : Gh} {a : Addr} {xs : List V} {ds : List D} (ha : gb.G a = some (.lst xs)) (ra : ∀ g, Step gb g → Reps K g xs ds) : Yields K (Ite K a) gb (enumD 0 ds) := fun g s i => by
  have la : SqL K g.H a xs := SqL.of (s.ok.lst (s.gs _ _ ha))
  have r1 := ra g s
  refine ⟨fun d hd => ?_, fun h => ⟨xs, la, by rw [enum_len] at h; rw [r1.length]; exact h⟩⟩
  obtain ⟨x, h1, rfl⟩ := enum_get hd
  obtain ⟨v1, e1, q1⟩ := r1.get h1
  refine ⟨⟨xs, v1, la, e1⟩, fun v H' hy => ?_⟩
  obtain ⟨T, u1, rfl, hT, rfl, f1⟩ := hy
  have z1 := f1 xs la
  rw [e1] at z1
  cases z1
  rw [Nat.zero_add]
  obtain ⟨s2, r⟩ := newTup s.ok hT (.cons (.int (i : Int)) (.cons q1 .nil))
  exact ⟨_, rfl, s2, r⟩
section
variable {X : Cx} {W : WX} {g0 : Gh} {k : Nat} {e : Expr} {ts : DA} {p pos tpos : Pos}
theorem bt_list' : bootBuiltins ("list" : Str) = some (.type "list") := by decide +kernel
theorem dc_listD (C : Cn X W k) (B : Bi X.mg) (ha : DPA X W g0 [e] ts) (hg : Gl X "list" := by rfl) (he : starEach [e] X.env = (false, eval e X.env) :: starEach [] X.env := by rfl) (hpl : (backTo pos (starEach [] X.env)).any (·.1) = false := by rfl) :
    DE X W g0 (.Call (.Name "list" p) [e] [] pos) (dB (on1 fListD) ts) := de_callTy (call_listD C.cm) rel_listD (B.at_ "list") bt_list' ha hg (by decide) (by decide) he hpl
theorem dc_sortS (C : Cn X W k) (B : Bi X.mg) (ha : DPA X W g0 [e] ts) (hg : Gl X "sorted" := by rfl) (he : starEach [e] X.env = (false, eval e X.env) :: starEach [] X.env := by rfl) (hpl : (backTo pos (starEach [] X.env)).any (·.1) = false := by rfl) :
    DE X W g0 (.Call (.Name "sorted" p) [e] [] pos) (dB (on1 fSortS) ts) := de_callB cr_sortedS rel_sortS (B.at_ "sorted") bt_sorted ha hg (by decide) (by decide) he hpl
theorem di_enum {elts : List Expr} {kk : Nat} (B : Bi X.mg) (ha : DPA X W g0 [e] ts) (hg : Gl X "enumerate" := by rfl) (hs : starEach [e] X.env = [(false, eval e X.env)] := by rfl) :
    DI X W g0 (.Tuple elts kk tpos) (.Call (.Name "enumerate" p) [e] [] pos) (iEnumD ts) :=
  PI.imp (pi_enum hg (B.at_ "enumerate") ha hs) fun σ H R h => by
    obtain ⟨g, ρ, P, Ex, rfl, s0, e, w, q, x⟩ := h
    refine ⟨g, ρ, _, _, rfl, s0, e, w, fun ds hd vs g1 s1 r1 => ?_, x⟩
    split at hd
    · rename_i da
      cases r1 with
      | cons r rs =>
        cases rs
        cases r with
        | lst ha ra => exact ⟨_, _, rfl, SqL.of (s1.ok.lst ha), q _ hd _ g1 s1 (yields_enum (gb := g0.re g1) ha (fun g s => Reps.up (g := g1) s.gs s.ms ra))⟩
    · exact hd.elim
end
end AU

/-! AuZ3: the head's facts of a class. -/
namespace AU
open PySem L2 PySem.Spec PyProof.Rows
section
variable {K : PySem.W.Frag} {h : Heap} {mg : Str → Option Value}
theorem chk_of (X : K.In h) (G : h.Ns mainGlobals mg) (c1 : (He.Fa.glo "Chance").ok K = true) (c2 : (He.Fa.cls "Chance").ok K = true) (c3 : (He.Fa.noat "Chance" "top").ok K = true) (c4 : (He.Fa.noat "Chance" "bottom").ok K = true) (c5 : (He.Fa.mkr "Chance").ok K = true) : ChK K mg :=
  ⟨He.cls_ok c2, He.noat_ok c3, He.noat_ok c4, He.mkr_ok c5, He.glo_ok X G c1⟩
def insB (K : PySem.W.Frag) (x : Str) : Bool := (He.eqO (PySem.W.findIn K (.ref (He.ga K x)) "__class__") (some (some (.builtin "object.__class__"))) && He.eqO (PySem.W.specialIn K (.builtin "object.__class__") "__get__") (some (some (.builtin "getset_descriptor.__get__")))) &&
  ((decide (PySem.W.takesIn K (.builtin "object.__class__") = some true) && decide (PySem.W.mroIn K (He.ga K x) (.type "object") = some true)) && (decide (PySem.W.kitOne K (.ref (He.ga K x)) (.ref (He.ga K x)) = some true) && tyNs.all fun T => decide (PySem.W.kitOne K (.type T) (.ref (He.ga K x)) = some false)))
theorem isk_of (X : K.In h) (G : h.Ns mainGlobals mg) {x : Str} (c1 : (He.Fa.glo x).ok K = true) (c2 : (He.Fa.cls x).ok K = true) (c3 : insB K x = true) : IsK K mg x := by
  unfold insB at c3
  simp only [Bool.and_eq_true] at c3
  obtain ⟨⟨a1, a2⟩, ⟨a3, a4⟩, a5, a6⟩ := c3
  exact ⟨⟨He.cls_ok c2, He.eqO_ok a1, He.eqO_ok a2, of_decide_eq_true a3, of_decide_eq_true a4, of_decide_eq_true a5⟩, fun T hT => of_decide_eq_true (List.all_eq_true.mp a6 T hT), He.glo_ok X G c1⟩
end
theorem law_fin {K : PySem.W.Frag} {mg : Str → Option Value} {fa : Addr} {st : Stmt} (Y : Df K mg st "law") (hmg : mg "law" = some (.ref fa)) : fa = He.ga K "law" ∧ ∃ fd, FunD K "law" "law" (defArgs st) (defBody st) (defScope st) [] [] (He.ga K "law") fd := by
  obtain ⟨fd, F, hm⟩ := Y
  rw [hm] at hmg
  injection hmg with z
  injection z with z
  exact ⟨z.symm, fd, F⟩
end AU

/-! AuZ4: a tuple times a whole number. -/
namespace AU
open PySem L2 PySem.Spec PyProof.Rows
theorem tuple_mul1 (l : Addr) (items : Array Value) (n : Nat) (dd : Option Addr) (sl : Array (Option Value)) (u : Tok) :
    Meets (Builtin.«tuple.__mul__» ⟨[.ref l, .int 1 u], []⟩) (fun _ R s => s.heap.get? l = some { cls := .type "tuple", dict := dd, data := .seq items n, slots := sl } ∧ R (.ok (.ret (Value.ref l))) s) :=
  .of_wp fun prog w A R s h => by
    obtain ⟨hp, g, d, tk, os⟩ := s
    obtain ⟨hl, h⟩ := h
    have f1 := AutoSeq1.idx_int
    have c0 : (decide ((1 : Int) < -(2 ^ 63)) || decide ((1 : Int) ≥ 2 ^ 63)) = false := by decide
    have c1 : (items.isEmpty || (1 : Int) == 1) = true := by simp
    wp_walk using wpAny_loadPart' hl
    exact ⟨_, rfl, h⟩
theorem tuple_mul0 (l : Addr) (items : Array Value) (n : Nat) (dd : Option Addr) (sl : Array (Option Value)) (u : Tok) (hi : items.isEmpty = false) :
    Meets (Builtin.«tuple.__mul__» ⟨[.ref l, .int 0 u], []⟩) (fun _ R s => s.heap.get? l = some { cls := .type "tuple", dict := dd, data := .seq items n, slots := sl } ∧
      R (.ok (.ret (Value.ref s.heap.objs.size))) { s with heap := s.heap.push { cls := Value.type "tuple", data := Data.seq (#[] : Array Value) }, toks := s.toks }) :=
  .of_wp fun prog w A R s h => by
    obtain ⟨hp, g, d, tk, os⟩ := s
    obtain ⟨hl, h⟩ := h
    have f1 := AutoSeq1.idx_int
    have c0 : (decide ((0 : Int) < -(2 ^ 63)) || decide ((0 : Int) ≥ 2 ^ 63)) = false := by decide
    have c1 : (items.isEmpty || (0 : Int) == 1) = false := by rw [hi]; rfl
    have c2 : (decide ((0 : Int) ≤ 0) || items.isEmpty) = true := by simp
    wp_walk using wpAny_loadPart' hl
    repeat (first
      | (refine wpAny_ite_false (decide_eq_false (by rw [c1]; exact Bool.false_ne_true)) ?_; wp_walk using wpAny_loadPart' hl)
      | (refine wpAny_ite_true (decide_eq_true (by rw [c2])) ?_; wp_walk using wpAny_loadPart' hl))
    exact ⟨_, rfl, h⟩
/-- one's tuple, so often -/
def rRep1 (K : PySem.W.Frag) : R2 := fun x y H Q => ∃ l k xs, x = .ref l ∧ y = .int k ∧ SqT K H l xs ∧ xs ≠ [] ∧ xs.length ≤ 1000 ∧ ((k = 1 ∧ Q (.ref l) H) ∨ (k = 0 ∧ ∀ p, H p = none → Q (.ref p) (upd H p (.tup []))))
section
variable {X : Cx}
theorem op_rep1 : OpR X (binaryOp .Mult) (rRep1 X.K) := by
  intro pins s σ H x y v u Q I rx ry h
  obtain ⟨l, k, xs, rfl, rfl, hT, hne, hz, q⟩ := h
  cases rx
  obtain ⟨t, rfl⟩ := ry
  obtain ⟨its, r, ⟨⟨cls, dd, data, sl⟩, ho, hc, n, hd⟩, hs⟩ := I.tuple hT
  simp only at hc hd
  subst hc hd
  have hle : its.length = xs.length := r.length.symm
  have hn : its ≠ [] := fun e => hne (by
    rw [e] at hle
    exact List.eq_nil_of_length_eq_zero hle.symm)
  have hi : its.toArray.isEmpty = false := by
    cases its with
    | nil => exact absurd rfl hn
    | cons a b => rfl
  rcases q with ⟨rfl, q⟩ | ⟨rfl, q⟩
  · refine wpAny_binaryOp_repeat_ref (T := "tuple") (U := "int") (by decide) ⟨_, ho, rfl⟩ (fun s' => typeIs_int s' 1 t) noFill_tuple_mul F.fills_int_mul F.slot_int_rmul repeat_tuple F.slot_int_index.lookup
      (call_meets F.slot_int_rmul (typeIs_int s 1 t) F.entry_int_rmul (F.args_int_rmul_2 _ _) (int_rmul_tuple 1 t l its.toArray n dd sl)
        ⟨ho, rfl, ⟨_, ho, rfl⟩, call_meets F.slot_tuple_mul ⟨_, ho, rfl⟩ F.entry_tuple_mul (F.args_tuple_mul_2 _ _) (tuple_mul1 l its.toArray n dd sl t) ⟨ho, ?_⟩⟩)
    exact ⟨.ref l, _, I, rfl, q⟩
  · refine wpAny_binaryOp_repeat_ref (T := "tuple") (U := "int") (by decide) ⟨_, ho, rfl⟩ (fun s' => typeIs_int s' 0 t) noFill_tuple_mul F.fills_int_mul F.slot_int_rmul repeat_tuple F.slot_int_index.lookup
      (call_meets F.slot_int_rmul (typeIs_int s 0 t) F.entry_int_rmul (F.args_int_rmul_2 _ _) (int_rmul_tuple 0 t l its.toArray n dd sl)
        ⟨ho, rfl, ⟨_, ho, rfl⟩, call_meets F.slot_tuple_mul ⟨_, ho, rfl⟩ F.entry_tuple_mul (F.args_tuple_mul_2 _ _) (tuple_mul0 l its.toArray n dd sl t hi) ⟨ho, ?_⟩⟩)
    refine ⟨.ref s.heap.objs.size, _, I.laid (t' := s.toks) (o := .tup []) (fun b ob q => Heap.get?_push_of_some _ q) (Nat.le_refl _) ?_, rfl, q _ (I.hok.fresh (Nat.le_refl _))⟩
    exact ⟨Nat.zero_le _, [], .nil, IsTup.new _ _⟩
end
/-- tuple * number -/
@[simp] def fRep : D → D → (D → Prop) → Prop
  | .tup ds, .int k, P => ds ≠ [] ∧ ds.length ≤ 1000 ∧ 0 ≤ k ∧ k ≤ 1000 ∧ P (.tup (List.replicate k.toNat ds).flatten)
  | _, _, _ => False
theorem reps_app' {K : PySem.W.Frag} {g : Gh} : ∀ {vs : List V} {ds : List D} {ws : List V} {es : List D}, Reps K g vs ds → Reps K g ws es → Reps K g (vs ++ ws) (ds ++ es)
  | _, _, _, _, .nil, h => h
  | _, _, _, _, .cons r rs, h => .cons r (reps_app' rs h)
theorem reps_rep {K : PySem.W.Frag} {g : Gh} {vs : List V} {ds : List D} (h : Reps K g vs ds) : ∀ n, Reps K g (List.replicate n vs).flatten (List.replicate n ds).flatten
  | 0 => .nil
  | n + 1 => by
    rw [List.replicate_succ, List.replicate_succ, List.flatten_cons, List.flatten_cons]
    exact reps_app' h (reps_rep h n)
theorem rel_rep {K : PySem.W.Frag} : Rel2 K (fun x y H Q => rRepT K x y H Q ∨ rRep1 K x y H Q) fRep := by
  intro g0 g x y a b P Q s rx ry w q
  cases rx with
  | @tup a va da ha ra => cases ry with
    | int k =>
      obtain ⟨hne, hz, k0, k1, w⟩ := w
      have hl := ra.length
      have hv : va ≠ [] := fun e => hne (by rw [e] at hl; exact List.eq_nil_of_length_eq_zero hl.symm)
      by_cases h2 : 2 ≤ k
      · refine .inl ⟨a, k, va, rfl, rfl, s.ok.sqT ha, hv, h2, k1, by omega, fun p hp => ?_⟩
        obtain ⟨s2, r2⟩ := newTup s.ok hp (reps_rep ra k.toNat)
        exact q _ w _ _ s2 r2
      · refine .inr ⟨a, k, va, rfl, rfl, s.ok.sqT ha, hv, by omega, ?_⟩
        have hk : k = 1 ∨ k = 0 := by omega
        rcases hk with rfl | rfl
        · refine .inl ⟨rfl, ?_⟩
          have e : (List.replicate (1 : Int).toNat da).flatten = da := by simp
          rw [e] at w
          exact q _ w _ g (Step.refl s.ok) (.tup ha ra)
        · refine .inr ⟨rfl, fun p hp => ?_⟩
          obtain ⟨s2, r2⟩ := newTup (K := K) s.ok hp .nil
          exact q _ w _ _ s2 r2
    | _ => exact w.elim
  | _ => cases ry <;> exact w.elim
theorem de_rep {X : Cx} {W : WX} {g0 : Gh} {pos : Pos} {a b : Expr} {ta tb : DT} (ha : DE X W g0 a ta) (hb : DE X W g0 b tb) : DE X W g0 (.BinOp a .Mult b pos) (dOp fRep ta tb) := de_op (op_repT.or op_rep1) rel_rep ha hb
theorem dt_eqC {X : Cx} {W : WX} {g0 : Gh} {k j : Nat} {S : Spec} {a b : Expr} {ta tb : DT} {pos : Pos} (C : Cn X W k) (F : OpC X.prog X.w X.K X.mg X.base j (cmpInfo .Eq).2.1 S) (hj : j ≤ k) (ha : DE X W g0 a ta) (hb : DE X W g0 b tb) : DTt X W g0 (.Compare a [.Eq] [b] pos) (dTest (dOp (fOwn S) ta tb)) := by
  obtain ⟨f, fd, ps, hs, hf, hc, F, hbd⟩ := F
  exact dt_cmp (opr_cmpOwn C (fun _ _ => rfl) F hj hbd hs hf) rel_own ha hb (nomark _)
theorem dt_eqT {X : Cx} {W : WX} {g0 : Gh} {k : Nat} {a b : Expr} {ta tb : DT} {pos : Pos} (C : Cn X W k) (ha : DE X W g0 a ta) (hb : DE X W g0 b tb) : DTt X W g0 (.Compare a [.Eq] [b] pos) (dTest (dOp fEqT ta tb)) := dt_cmp (opr_eqI C) rel_eqI ha hb (nomark _)
end AU

/-! AuT: the readings of the defs (printed by mkt.py). -/
namespace AU
open PySem L2 PySem.Spec PyProof.Rows
/-- where a script is drawn from -/
def S__law_begin : Spec := fun ds P _ => ∃ ns, ds = [.scr ns] ∧ P .drw
def S__law_draw : Spec := fun ds P _ => ∃ n : Int, ds = [.drw, .int n] ∧ 0 < n ∧ n < 1073741824 ∧ ∀ r, 0 ≤ r → r < n → P (.int r)
def t_is_word : DS := dRet (dAndV (dOn (fIsi "str") (dVar 0)) (dAndV (dChain fLe fLe (dC (.int 1)) (dB (on1 fLen) (dCons (dVar 0) (dNil))) (dC (.int 8))) (dB (on1 fAll) (dCons (dLc (iStrD (dVar 0)) (dgN 1) (dYes) (dOp fIn (dVar 1) (dC (.str "abcdefghijklmnopqrstuvwxyz"))) [1]) (dNil)))))
def t_is_within (S_is_word : Spec) (S_is_within : Spec) : DS := dSeq (dIfS (dOr (dNot (dTru (dOn (fIsi "tuple") (dVar 0)))) (dOr (dNot (dTru (dVar 0))) (dNot (dTru (dOn (fIsi "str") (dOp fIx (dVar 0) (dC (.int 0)))))))) (dRet (dC (.bl false))) (dNext)) (dSeq (dIfS (dTest (dOp fEq (dOp fIx (dVar 0) (dC (.int 0))) (dC (.str "mark")))) (dRet (dAndV (dOp fEq (dB (on1 fLen) (dCons (dVar 0) (dNil))) (dC (.int 2))) (dCall S_is_word (dCons (dOp fIx (dVar 0) (dC (.int 1))) (dNil))))) (dNext)) (dSeq (dIfS (dOr (dTest (dOp fNe (dOp fIx (dVar 0) (dC (.int 0))) (dC (.str "draw")))) (dOr (dTest (dOp fNe (dB (on1 fLen) (dCons (dVar 0) (dNil))) (dC (.int 4)))) (dTest (dOp fEq (dVar 1) (dC (.int 0)))))) (dRet (dC (.bl false))) (dNext)) (dSeq (dIfS (dOr (dNot (dTru (dOn (fIsi "str") (dOp fIx (dVar 0) (dC (.int 1)))))) (dTest (dOp fNotIn (dOp fIx (dVar 0) (dC (.int 1))) (dC (.tup [(.str "back"), (.str "aside"), (.str "more"), (.str "other")]))))) (dRet (dC (.bl false))) (dNext)) (dRet (dAndV (dCall S_is_within (dCons (dOp fIx (dVar 0) (dC (.int 2))) (dCons (dOp fSub (dVar 1) (dC (.int 1))) (dNil)))) (dCall S_is_within (dCons (dOp fIx (dVar 0) (dC (.int 3))) (dCons (dOp fSub (dVar 1) (dC (.int 1))) (dNil)))))))))
def t_is_program (S_is_within : Spec) : DS := dRet (dCall S_is_within (dCons (dVar 0) (dCons (dC (.int 6)) (dNil))))
def t_check_program (S_is_program : Spec) : DS := dIfS (dNot (dTru (dCall S_is_program (dCons (dVar 0) (dNil))))) (dRaise "BadProgram") (dNext)
def t_text_of (S_text_of : Spec) : DS := dSeq (dIfS (dTest (dOp fEq (dOp fIx (dVar 0) (dC (.int 0))) (dC (.str "mark")))) (dRet (dOp fIx (dVar 0) (dC (.int 1)))) (dNext)) (dRet (dJs [dFmt (dOp fIx (dVar 0) (dC (.int 1))), dC (.str "("), dFmt (dCall S_text_of (dCons (dOp fIx (dVar 0) (dC (.int 2))) (dNil))), dC (.str ", "), dFmt (dCall S_text_of (dCons (dOp fIx (dVar 0) (dC (.int 3))) (dNil))), dC (.str ")")] Str.empty))
def t_write (S_check_program : Spec) (S_text_of : Spec) : DS := dSeq (dDrop (dCall S_check_program (dCons (dVar 0) (dNil)))) (dRet (dCall S_text_of (dCons (dVar 0) (dNil))))
def t_word_at : DS := dSeq (dSet 2 (dVar 1)) (dSeq (dWhile (dAnd (dTest (dOp fLt (dVar 2) (dB (on1 fLen) (dCons (dVar 0) (dNil))))) (dTest (dOp fIn (dOp fIx (dVar 0) (dVar 2)) (dC (.str "abcdefghijklmnopqrstuvwxyz"))))) (dAug 2 (dC (.int 1)) (fun a b => a + b))) (dRet (dTup (dCons (dSl (dVar 0) (dPart (dVar 1)) (dPart (dVar 2))) (dCons (dVar 2) (dNil))))))
def t_program_at (S_word_at : Spec) (S_program_at : Spec) : DS := dSeq (dAsg (dCall S_word_at (dCons (dVar 0) (dCons (dVar 1) (dNil)))) (dgTup (dgCons (dgN 3) (dgCons (dgN 1) (dgNil))))) (dSeq (dIfS (dTest (dOp fNe (dSl (dVar 0) (dPart (dVar 1)) (dPart (dOp fAdd (dVar 1) (dC (.int 1))))) (dC (.str "(")))) (dRet (dTup (dCons (dTup (dCons (dC (.str "mark")) (dCons (dVar 3) (dNil)))) (dCons (dVar 1) (dNil))))) (dNext)) (dSeq (dIfS (dOr (dTest (dOp fNotIn (dVar 3) (dC (.tup [(.str "back"), (.str "aside"), (.str "more"), (.str "other")])))) (dTest (dOp fEq (dVar 2) (dC (.int 0))))) (dRet (dTup (dCons (dC .non) (dCons (dVar 1) (dNil))))) (dNext)) (dSeq (dAsg (dCall S_program_at (dCons (dVar 0) (dCons (dOp fAdd (dVar 1) (dC (.int 1))) (dCons (dOp fSub (dVar 2) (dC (.int 1))) (dNil))))) (dgTup (dgCons (dgN 4) (dgCons (dgN 1) (dgNil))))) (dSeq (dIfS (dOr (dTest (dOp fIs (dVar 4) (dC .non))) (dTest (dOp fNe (dSl (dVar 0) (dPart (dVar 1)) (dPart (dOp fAdd (dVar 1) (dC (.int 2))))) (dC (.str ", "))))) (dRet (dTup (dCons (dC .non) (dCons (dVar 1) (dNil))))) (dNext)) (dSeq (dAsg (dCall S_program_at (dCons (dVar 0) (dCons (dOp fAdd (dVar 1) (dC (.int 2))) (dCons (dOp fSub (dVar 2) (dC (.int 1))) (dNil))))) (dgTup (dgCons (dgN 5) (dgCons (dgN 1) (dgNil))))) (dSeq (dIfS (dOr (dTest (dOp fIs (dVar 5) (dC .non))) (dTest (dOp fNe (dSl (dVar 0) (dPart (dVar 1)) (dPart (dOp fAdd (dVar 1) (dC (.int 1))))) (dC (.str ")"))))) (dRet (dTup (dCons (dC .non) (dCons (dVar 1) (dNil))))) (dNext)) (dRet (dTup (dCons (dTup (dCons (dC (.str "draw")) (dCons (dVar 3) (dCons (dVar 4) (dCons (dVar 5) (dNil)))))) (dCons (dOp fAdd (dVar 1) (dC (.int 1))) (dNil)))))))))))
def t_read (S_program_at : Spec) (S_is_program : Spec) : DS := dSeq (dAsg (dCall S_program_at (dCons (dVar 0) (dCons (dC (.int 0)) (dCons (dC (.int 6)) (dNil))))) (dgTup (dgCons (dgN 1) (dgCons (dgN 2) (dgNil))))) (dSeq (dIfS (dOr (dTest (dOp fIs (dVar 1) (dC .non))) (dOr (dTest (dOp fLt (dVar 2) (dB (on1 fLen) (dCons (dVar 0) (dNil))))) (dNot (dTru (dCall S_is_program (dCons (dVar 1) (dNil))))))) (dRaise "BadText") (dNext)) (dRet (dVar 1)))
def t__law_ways : DS := dRet (dLst (dCons (dC (.str "back")) (dCons (dC (.str "aside")) (dCons (dC (.str "more")) (dCons (dC (.str "other")) (dNil))))))
def t__law_program (S__law_draw : Spec) (S__law_ways : Spec) (S__law_program : Spec) : DS := dSeq (dIfS (dOr (dTest (dOp fEq (dVar 1) (dC (.int 0)))) (dTest (dOp fEq (dCall S__law_draw (dCons (dVar 0) (dCons (dC (.int 5)) (dNil)))) (dC (.int 0))))) (dRet (dTup (dCons (dC (.str "mark")) (dCons (dOp fIx (dLst (dCons (dC (.str "hit")) (dCons (dC (.str "miss")) (dCons (dC (.str "back")) (dNil))))) (dCall S__law_draw (dCons (dVar 0) (dCons (dC (.int 3)) (dNil))))) (dNil))))) (dNext)) (dSeq (dSet 2 (dOp fIx (dCall S__law_ways dNil) (dCall S__law_draw (dCons (dVar 0) (dCons (dC (.int 4)) (dNil)))))) (dRet (dTup (dCons (dC (.str "draw")) (dCons (dVar 2) (dCons (dCall S__law_program (dCons (dVar 0) (dCons (dOp fSub (dVar 1) (dC (.int 1))) (dNil)))) (dCons (dCall S__law_program (dCons (dVar 0) (dCons (dOp fSub (dVar 1) (dC (.int 1))) (dNil)))) (dNil))))))))
def t__law_text (S__law_text : Spec) : DS := dSeq (dIfS (dTest (dOp fEq (dOp fIx (dVar 0) (dC (.int 0))) (dC (.str "mark")))) (dRet (dOp fIx (dVar 0) (dC (.int 1)))) (dNext)) (dRet (dOp fAdd (dOp fAdd (dOp fAdd (dOp fAdd (dOp fAdd (dOp fIx (dVar 0) (dC (.int 1))) (dC (.str "("))) (dCall S__law_text (dCons (dOp fIx (dVar 0) (dC (.int 2))) (dNil)))) (dC (.str ", "))) (dCall S__law_text (dCons (dOp fIx (dVar 0) (dC (.int 3))) (dNil)))) (dC (.str ")"))))
def t__law_like (S__law_like : Spec) : DS := dSeq (dIfS (dTru (dOn (fIsi "dict") (dVar 1))) (dNever) (dNext)) (dSeq (dIfS (dTest (dOp fIs (dVar 1) (dC .non))) (dRet (dOp fIs (dVar 0) (dC .non))) (dNext)) (dSeq (dIfS (dTru (dOn (fIsi "bool") (dVar 1))) (dRet (dAndV (dOn (fIsi "bool") (dVar 0)) (dOp fEq (dVar 0) (dVar 1)))) (dNext)) (dSeq (dIfS (dTru (dOn (fIsi "int") (dVar 1))) (dRet (dAndV (dOn (fIsi "int") (dVar 0)) (dAndV (dNotV (dOn (fIsi "bool") (dVar 0))) (dOp fEq (dVar 0) (dVar 1))))) (dNext)) (dSeq (dIfS (dTru (dOn (fIsi "str") (dVar 1))) (dRet (dAndV (dOn (fIsi "str") (dVar 0)) (dOp fEq (dVar 0) (dVar 1)))) (dNext)) (dSeq (dIfS (dTru (dOn (fIsi "tuple") (dVar 1))) (dIfS (dOr (dNot (dTru (dOn (fIsi "tuple") (dVar 0)))) (dTest (dOp fNe (dB (on1 fLen) (dCons (dVar 0) (dNil))) (dB (on1 fLen) (dCons (dVar 1) (dNil)))))) (dRet (dC (.bl false))) (dNext)) (dIfS (dOr (dNot (dTru (dOn (fIsi "list") (dVar 0)))) (dTest (dOp fNe (dB (on1 fLen) (dCons (dVar 0) (dNil))) (dB (on1 fLen) (dCons (dVar 1) (dNil)))))) (dRet (dC (.bl false))) (dNext))) (dSeq (dFor (iRange1 (dCons (dB (on1 fLen) (dCons (dVar 1) (dNil))) (dNil))) (dgN 2) (dIfS (dNot (dTru (dCall S__law_like (dCons (dOp fIx (dVar 0) (dVar 2)) (dCons (dOp fIx (dVar 1) (dVar 2)) (dNil)))))) (dRet (dC (.bl false))) (dNext))) (dRet (dC (.bl true)))))))))
end AU

/-! AuP1: plain laws: words, programs. -/
namespace AU
open PySem L2 PySem.Spec PyProof.Rows

/-- a comprehension that maps -/
theorem lcN_map {gt : DG} {te : DT} {ρ : Rho} (f : D → D) : ∀ (ds acc : List D) (P : List D → Prop), acc.length + ds.length ≤ 16777216 → (∀ d ∈ ds, ∀ R : D → Prop, R (f d) → gt d ρ (fun ρ1 => te ρ1 R noX)) → P (acc ++ ds.map f) → lcN gt dYes te ρ ds acc P
  | [], acc, P, _, _, h => by rw [List.map_nil, List.append_nil] at h; exact h
  | d :: ds, acc, P, hl, hg, h => by
    have hl' : acc.length + (ds.length + 1) ≤ 16777216 := by rw [List.length_cons] at hl; exact hl
    have := hg d List.mem_cons_self (fun y => acc.length < 16777216 ∧ lcN gt dYes te ρ ds (acc ++ [y]) P) ⟨by omega, lcN_map f ds (acc ++ [f d]) P (by rw [List.length_append, List.length_singleton]; omega) (fun d' h' => hg d' (List.mem_cons_of_mem _ h')) (by rw [List.append_assoc]; exact h)⟩
    show gt d ρ fun ρ1 => dYes ρ1 (fun b => if b = true then te ρ1 (fun y => acc.length < 16777216 ∧ lcN gt dYes te ρ ds (acc ++ [y]) P) noX else lcN gt dYes te ρ ds acc P) noX
    exact this

/-! ### words -/
def smallB (c : Nat) : Bool := decide (c ∈ ("abcdefghijklmnopqrstuvwxyz" : Str).cps.toList)
def wordB (w : Str) : Bool := decide (1 ≤ w.length) && (decide (w.length ≤ 8) && w.cps.toList.all smallB)
def isWordD : D → Bool
  | .str w => wordB w
  | _ => false
def kn1 (d : D) : Prop := known d = true ∧ ∀ w, d = .str w → w.length ≤ 16777216
def S_is_word : Spec := fun ds P _ => ∃ d, ds = [d] ∧ kn1 d ∧ P (.bl (isWordD d))
theorem p_is_word : ∀ ds Q Ex, S_is_word ds Q Ex → t_is_word (startD 2 ds) (endsOf Q Ex) := by
  rintro _ Q Ex ⟨d, rfl, ⟨hk, hl⟩, h⟩
  cases d with
  | str w =>
    have hl := hl w rfl
    have e : isWordD (.str w) = (decide (1 ≤ w.length) && (decide (w.length ≤ 8) && w.cps.toList.all smallB)) := rfl
    have hw : w.cps.toList.length = w.length := by simp [Str.length]
    rw [e] at h
    simp [t_is_word, hl]
    split
    · rename_i h1
      split
      · rename_i h2
        refine lcN_map (fun d => match d with | .str x => .bl (x.cps.toList.all smallB) | _ => .non) _ [] _ ?_ ?_ ?_
        · simp only [List.length_nil, List.length_map, hw]
          omega
        · intro d hd R hR
          obtain ⟨c, _, rfl⟩ := List.mem_map.mp hd
          simp [sign?]
          simpa [smallB] using hR
        · refine ⟨w.cps.toList.map smallB, ?_, ?_⟩
          · rw [List.nil_append, List.map_map, ← bools_map, List.map_map]
            congr 1
            apply List.map_congr_left
            intro c _
            simp
          · rw [decide_eq_true (by omega), decide_eq_true (by omega)] at h
            simpa [List.all_map] using h
      · rw [decide_eq_false (show ¬ w.length ≤ 8 by omega)] at h
        simpa using h
    · rw [decide_eq_false (show ¬ 1 ≤ w.length by omega)] at h
      simpa using h
  | _ => first | (simp [t_is_word]; exact h) | (simp at hk)

/-! ### programs -/
/-- a program -/
inductive Pg where
  | mark (w : Str)
  | draw (way : Str) (red blue : Pg)
def Pg.d : Pg → D
  | .mark w => .tup [.str "mark", .str w]
  | .draw way r b => .tup [.str "draw", .str way, r.d, b.d]
def wayB (w : Str) : Bool := decide (w = "back") || (decide (w = "aside") || (decide (w = "more") || decide (w = "other")))
/-- within: what is told of any thing -/
def withinD (n : Nat) (d : D) : Bool := match d with
  | .tup (.str h :: r) => if h = "mark" then (match r with
      | [w] => isWordD w
      | _ => false) else if h = "draw" then (match r with
      | [.str way, a, b] => (match n with
        | 0 => false
        | n + 1 => wayB way && (withinD n a && withinD n b))
      | _ => false) else false
  | _ => false
/-- a thing that isinstance knows, and all that is in it so deep -/
def Kn : Nat → D → Prop
  | 0, d => kn1 d
  | n + 1, d => kn1 d ∧ ∀ ds, d = .tup ds → ∀ x ∈ ds, Kn n x
theorem Kn.one : ∀ {n : Nat} {d : D}, Kn n d → kn1 d
  | 0, _, h => h
  | _ + 1, _, h => h.1
def S_is_within (N : Nat) : Spec := fun ds P _ => ∃ (d : D) (n : Nat), ds = [d, .int n] ∧ n ≤ N ∧ Kn (n + 1) d ∧ P (.bl (withinD n d))
@[simp] theorem s_draw_mark : (("draw" : Str) = "mark") = False := by simp only [eq_iff_iff, iff_false]; decide +kernel
@[simp] theorem s_mark_draw : (("mark" : Str) = "draw") = False := by simp only [eq_iff_iff, iff_false]; decide +kernel
theorem atI_n {l : List D} {i : Nat} (h : i < l.length) : atI l (i : Int) = l[i]? := by
  unfold atI ixN
  rw [if_pos (by omega), if_pos (by omega)]
  rfl
@[simp] theorem atI0 {a : D} {r : List D} : atI (a :: r) 0 = some a := atI_n (l := a :: r) (i := 0) (by simp)
@[simp] theorem atI1 {a b : D} {r : List D} : atI (a :: b :: r) 1 = some b := atI_n (l := a :: b :: r) (i := 1) (by simp)
@[simp] theorem atI2 {a b c : D} {r : List D} : atI (a :: b :: c :: r) 2 = some c := atI_n (l := a :: b :: c :: r) (i := 2) (by simp)
@[simp] theorem atI3 {a b c d : D} {r : List D} : atI (a :: b :: c :: d :: r) 3 = some d := atI_n (l := a :: b :: c :: d :: r) (i := 3) (by simp)
theorem p_is_within (N : Nat) (SR : Spec) (hr : ∀ ds P Ex, N ≠ 0 → S_is_within (N - 1) ds P Ex → SR ds P Ex) : ∀ ds Q Ex, S_is_within N ds Q Ex → t_is_within S_is_word SR (startD 2 ds) (endsOf Q Ex) := by
  rintro _ Q Ex ⟨d, n, rfl, hn, ⟨⟨hk, _⟩, hd⟩, h⟩
  unfold withinD at h
  cases d with
  | tup ds =>
    have hd := hd ds rfl
    cases ds with
    | nil => simpa [t_is_within] using h
    | cons x r =>
      have kx := (hd x List.mem_cons_self).one.1
      cases x with
      | str m =>
        by_cases hm : m = "mark"
        · subst hm
          simp at h
          match r, hd, h with
          | [], _, h => simpa [t_is_within] using h
          | [w], hd, h =>
            simp [t_is_within]
            exact ⟨w, rfl, (hd w (by simp)).one, h⟩
          | _ :: _ :: r, _, h =>
            simp [t_is_within]
            rw [if_neg (by omega)]
            exact h
        · by_cases hm2 : m = "draw"
          · subst hm2
            simp at h
            match r, hd, h with
            | [], _, h => simpa [t_is_within] using h
            | [_], _, h => simpa [t_is_within] using h
            | [_, _], _, h => simpa [t_is_within] using h
            | [wy, a, b], hd, h =>
              cases n with
              | zero =>
                simp [t_is_within]
                have e : Q (.bl false) := by cases wy <;> exact h
                exact e
              | succ n =>
                have ka : Kn (n + 1) a := hd a (by simp)
                have kb : Kn (n + 1) b := hd b (by simp)
                have kw := (hd wy (by simp)).one.1
                have go : ∀ (x : D) (P : D → Prop) (Ex : Str → Prop), Kn (n + 1) x → P (.bl (withinD n x)) → SR [x, .int (n : Int)] P Ex := fun x P Ex kx hP => hr _ _ _ (by omega) ⟨x, n, rfl, by omega, kx, hP⟩
                cases wy with
                | str way =>
                  simp at h
                  simp [t_is_within]
                  have ew : wayB way = true ↔ (inL (.str way) [.str "back", .str "aside", .str "more", .str "other"] = true) := by
                    simp [wayB, inL, deq, @eq_comm Str way]
                  by_cases hw : wayB way = true
                  · rw [if_neg (by omega), if_pos (ew.mp hw)]
                    refine go _ _ _ ka ?_
                    rw [hw] at h
                    cases ha : withinD n a with
                    | true =>
                      rw [ha] at h
                      simp
                      refine go _ _ _ kb (by simpa using h)
                    | false =>
                      rw [ha] at h
                      simpa using h
                  · rw [if_neg (by omega), if_neg (fun z => hw (ew.mpr z))]
                    rw [Bool.eq_false_iff.mpr hw] at h
                    simpa using h
                | _ => first | (have h : Q (.bl false) := h; simp [t_is_within]; first | exact h | (rw [if_neg (by omega)]; exact h)) | (exact absurd kw (by simp))
            | _ :: _ :: _ :: _ :: r, _, h =>
              have e : Q (.bl false) := by
                split at h
                · rename_i e; simp at e
                · exact h
              simp [t_is_within]
              rw [if_neg (by omega)]
              exact e
          · simp [t_is_within, hm, hm2]
            simpa [hm, hm2] using h
      | _ => first | (simpa [t_is_within] using h) | (exact absurd kx (by simp))
  | _ => first | (simpa [t_is_within] using h) | (exact absurd hk (by simp))
end AU

/-! AuP2: plain laws: texts of programs, and back. -/
namespace AU
open PySem L2 PySem.Spec PyProof.Rows
/-! ### programs -/
def Pg.ok : Nat → Pg → Bool
  | _, .mark w => wordB w
  | 0, .draw _ _ _ => false
  | n + 1, .draw w a b => wayB w && (a.ok n && b.ok n)
/-- all its texts fit -/
def Pg.fit : Pg → Prop
  | .mark w => w.length ≤ 16777216
  | .draw w a b => w.length ≤ 16777216 ∧ a.fit ∧ b.fit
theorem word_len {w : Str} (h : wordB w = true) : w.length ≤ 8 := by
  unfold wordB at h
  simp only [Bool.and_eq_true, decide_eq_true_eq] at h
  exact h.2.1
theorem way_len {w : Str} (h : wayB w = true) : w.length ≤ 5 := by
  unfold wayB at h
  simp only [Bool.or_eq_true, decide_eq_true_eq] at h
  rcases h with h | h | h | h <;> (subst h; decide +kernel)
theorem Pg.ok_fit : ∀ {n : Nat} {p : Pg}, p.ok n = true → p.fit
  | n, .mark w, h => by
    have : wordB w = true := by cases n <;> exact h
    exact Nat.le_trans (word_len this) (by decide)
  | 0, .draw _ _ _, h => by cases h
  | n + 1, .draw w a b, h => by
    have h : (wayB w && (a.ok n && b.ok n)) = true := h
    simp only [Bool.and_eq_true] at h
    exact ⟨Nat.le_trans (way_len h.1) (by decide), Pg.ok_fit h.2.1, Pg.ok_fit h.2.2⟩
theorem Pg.kn1 {p : Pg} : AU.kn1 p.d := by
  cases p <;> exact ⟨rfl, fun _ e => by cases e⟩
theorem kn_str {w : Str} (h : w.length ≤ 16777216) : ∀ n, Kn n (.str w)
  | 0 => ⟨rfl, fun _ e => by cases e; exact h⟩
  | n + 1 => ⟨⟨rfl, fun _ e => by cases e; exact h⟩, fun _ e => by cases e⟩
theorem lit_len : ("mark" : Str).length ≤ 16777216 ∧ ("draw" : Str).length ≤ 16777216 := by decide +kernel
theorem Pg.kn : ∀ (n : Nat) {p : Pg}, p.fit → Kn n p.d
  | 0, p, _ => Pg.kn1
  | n + 1, .mark w, h => ⟨Pg.kn1, fun ds e x hx => by
    cases e
    rcases List.mem_cons.mp hx with e | hx
    · subst e; exact kn_str lit_len.1 n
    · rcases List.mem_cons.mp hx with e | hx
      · subst e; exact kn_str h n
      · cases hx⟩
  | n + 1, .draw w a b, h => ⟨Pg.kn1, fun ds e x hx => by
    cases e
    rcases List.mem_cons.mp hx with e | hx
    · subst e; exact kn_str lit_len.2 n
    · rcases List.mem_cons.mp hx with e | hx
      · subst e; exact kn_str h.1 n
      · rcases List.mem_cons.mp hx with e | hx
        · subst e; exact Pg.kn n h.2.1
        · rcases List.mem_cons.mp hx with e | hx
          · subst e; exact Pg.kn n h.2.2
          · cases hx⟩
theorem Pg.within : ∀ (n : Nat) (p : Pg), withinD n p.d = p.ok n
  | n, .mark w => by unfold withinD; cases n <;> simp [Pg.d, Pg.ok, isWordD]
  | 0, .draw w a b => by unfold withinD; simp [Pg.d, Pg.ok]
  | n + 1, .draw w a b => by
    unfold withinD
    simp [Pg.d, Pg.ok, Pg.within n a, Pg.within n b]
def S_is_program : Spec := fun ds P _ => ∃ d, ds = [d] ∧ Kn 7 d ∧ P (.bl (withinD 6 d))
theorem p_is_program : ∀ ds Q Ex, S_is_program ds Q Ex → t_is_program (S_is_within 6) (startD 1 ds) (endsOf Q Ex) := by
  rintro _ Q Ex ⟨d, rfl, hk, h⟩
  simp [t_is_program]
  exact ⟨d, 6, rfl, Nat.le_refl _, hk, h⟩
def S_check_program : Spec := fun ds P Ex => ∃ d, ds = [d] ∧ Kn 7 d ∧ if withinD 6 d = true then P .non else Ex "BadProgram"
theorem p_check_program : ∀ ds Q Ex, S_check_program ds Q Ex → t_check_program S_is_program (startD 1 ds) (endsOf Q Ex) := by
  rintro _ Q Ex ⟨d, rfl, hk, h⟩
  simp [t_check_program]
  refine ⟨d, rfl, hk, ?_⟩
  cases hb : withinD 6 d with
  | true => rw [hb] at h; simpa using h
  | false => rw [hb] at h; simpa using h

/-! ### texts -/
def Pg.text : Pg → Str
  | .mark w => w
  | .draw w a b => ((((w ++ ("(" : Str)) ++ a.text) ++ (", " : Str)) ++ b.text) ++ (")" : Str)
theorem len_app (a b : Str) : (a ++ b).length = a.length + b.length := by
  show (a.cps ++ b.cps).size = _
  rw [Array.size_append]; rfl
theorem empty_app (a : Str) : Str.empty ++ a = a := by
  show (⟨#[] ++ a.cps⟩ : Str) = a
  rw [Array.empty_append]
theorem len_p : ("(" : Str).length = 1 ∧ (", " : Str).length = 2 ∧ (")" : Str).length = 1 := by decide +kernel
theorem Pg.text_len : ∀ {n : Nat} {p : Pg}, p.ok n = true → p.text.length + 9 ≤ 17 * 2 ^ n
  | n, .mark w, h => by
    have h : wordB w = true := by cases n <;> exact h
    have := word_len h
    have : 1 ≤ 2 ^ n := Nat.one_le_two_pow
    show w.length + 9 ≤ _
    omega
  | 0, .draw _ _ _, h => by cases h
  | n + 1, .draw w a b, h => by
    have h : (wayB w && (a.ok n && b.ok n)) = true := h
    simp only [Bool.and_eq_true] at h
    have h1 := way_len h.1
    have h2 := Pg.text_len h.2.1
    have h3 := Pg.text_len h.2.2
    obtain ⟨l1, l2, l3⟩ := len_p
    simp only [Pg.text, len_app, l1, l2, l3, Nat.pow_succ]
    omega
theorem Pg.text_small {n : Nat} {p : Pg} (h : p.ok n = true) (hn : n ≤ 6) : p.text.length ≤ 1079 := by
  have h1 := Pg.text_len h
  have : 2 ^ n ≤ 2 ^ 6 := Nat.pow_le_pow_right (by decide) hn
  omega
def S_text_of (N : Nat) : Spec := fun ds P _ => ∃ (p : Pg) (n : Nat), ds = [p.d] ∧ n ≤ N ∧ N ≤ 6 ∧ p.ok n = true ∧ P (.str p.text)
theorem Pg.ok_draw {n : Nat} {w : Str} {a b : Pg} (h : Pg.ok n (.draw w a b) = true) : ∃ m, n = m + 1 ∧ wayB w = true ∧ a.ok m = true ∧ b.ok m = true := by
  cases n with
  | zero => cases h
  | succ m =>
    have h : (wayB w && (a.ok m && b.ok m)) = true := h
    simp only [Bool.and_eq_true] at h
    exact ⟨m, rfl, h.1, h.2.1, h.2.2⟩
theorem Pg.ok_mark {n : Nat} {w : Str} (h : Pg.ok n (.mark w) = true) : wordB w = true := by cases n <;> exact h
theorem p_text_of (N : Nat) (SR : Spec) (hr : ∀ ds P Ex, N ≠ 0 → S_text_of (N - 1) ds P Ex → SR ds P Ex) : ∀ ds Q Ex, S_text_of N ds Q Ex → t_text_of SR (startD 1 ds) (endsOf Q Ex) := by
  rintro _ Q Ex ⟨p, n, rfl, hn, hN, hp, h⟩
  cases p with
  | mark w => simpa [t_text_of, Pg.d, Pg.text] using h
  | draw w a b =>
    obtain ⟨m, rfl, hw, ha, hb⟩ := Pg.ok_draw hp
    have l0 := way_len hw
    have l1 := Pg.text_small ha (by omega)
    have l2 := Pg.text_small hb (by omega)
    obtain ⟨q1, q2, q3⟩ := len_p
    simp [t_text_of, Pg.d]
    refine ⟨by omega, by simp only [len_app]; show 0 + w.length ≤ _; omega, by simp only [len_app]; show 0 + w.length + _ ≤ _; omega, ?_⟩
    refine hr _ _ _ (by omega) ⟨a, m, rfl, by omega, by omega, ha, ?_⟩
    simp
    refine ⟨by omega, by simp only [len_app]; show 0 + w.length + _ + _ ≤ _; omega, by simp only [len_app]; show 0 + w.length + _ + _ + _ ≤ _; omega, ?_⟩
    refine hr _ _ _ (by omega) ⟨b, m, rfl, by omega, by omega, hb, ?_⟩
    simp
    refine ⟨by omega, by simp only [len_app]; show 0 + w.length + _ + _ + _ + _ ≤ _; omega, by simp only [len_app]; show 0 + w.length + _ + _ + _ + _ + _ ≤ _; omega, ?_⟩
    rw [empty_app]
    exact h
def S_write : Spec := fun ds P _ => ∃ (p : Pg), ds = [p.d] ∧ p.ok 6 = true ∧ P (.str p.text)
theorem p_write : ∀ ds Q Ex, S_write ds Q Ex → t_write S_check_program (S_text_of 6) (startD 1 ds) (endsOf Q Ex) := by
  rintro _ Q Ex ⟨p, rfl, hp, h⟩
  simp [t_write]
  refine ⟨p.d, rfl, Pg.kn 7 (Pg.ok_fit hp), ?_⟩
  rw [Pg.within, if_pos hp]
  exact ⟨p, 6, rfl, Nat.le_refl _, Nat.le_refl _, hp, h⟩

/-! ### the reader -/
def wd (L : List Nat) (a : Nat) : List Nat := (L.drop a).takeWhile smallB
theorem tw_lt {p : Nat → Bool} : ∀ {l : List Nat} {j : Nat}, j < (l.takeWhile p).length → ∃ c, l[j]? = some c ∧ p c = true
  | [], j, h => by simp at h
  | x :: l, j, h => by
    rw [List.takeWhile_cons] at h
    split at h
    · rename_i hx
      cases j with
      | zero => exact ⟨x, rfl, hx⟩
      | succ j =>
        obtain ⟨c, h1, h2⟩ := tw_lt (p := p) (l := l) (j := j) (by simpa using h)
        exact ⟨c, by simpa using h1, h2⟩
    · simp at h
theorem tw_at {p : Nat → Bool} : ∀ {l : List Nat} {c : Nat}, l[(l.takeWhile p).length]? = some c → p c = false
  | [], c, h => by simp at h
  | x :: l, c, h => by
    rw [List.takeWhile_cons] at h
    split at h
    · exact tw_at (l := l) (by simpa using h)
    · rename_i hx
      simp at h
      subst h
      simpa using hx
theorem tw_take {p : Nat → Bool} : ∀ (l : List Nat), l.take (l.takeWhile p).length = l.takeWhile p
  | [] => rfl
  | x :: l => by
    rw [List.takeWhile_cons]
    split
    · rw [List.length_cons, List.take_succ_cons, tw_take l]
    · rfl
theorem tw_le {p : Nat → Bool} (l : List Nat) : (l.takeWhile p).length ≤ l.length := by
  have := congrArg List.length (tw_take (p := p) l)
  rw [List.length_take] at this
  omega
abbrev cs (T : Str) : List Nat := T.cps.toList
theorem cs_len (T : Str) : (cs T).length = T.length := by simp [Str.length]
theorem wd_le {L : List Nat} {a : Nat} (h : a ≤ L.length) : a + (wd L a).length ≤ L.length := by
  have := tw_le (p := smallB) (L.drop a)
  rw [List.length_drop] at this
  unfold wd
  omega
theorem wd_lt {L : List Nat} {a e : Nat} (h1 : a ≤ e) (h2 : e < a + (wd L a).length) : ∃ c, L[e]? = some c ∧ smallB c = true := by
  obtain ⟨c, q1, q2⟩ := tw_lt (p := smallB) (l := L.drop a) (j := e - a) (by unfold wd at h2; omega)
  rw [List.getElem?_drop, show a + (e - a) = e by omega] at q1
  exact ⟨c, q1, q2⟩
theorem wd_at {L : List Nat} {a c : Nat} (h : L[a + (wd L a).length]? = some c) : smallB c = false := by
  apply tw_at (l := L.drop a)
  rw [List.getElem?_drop]
  exact h
theorem cut_at {T : Str} {a k : Nat} (h : a ≤ T.length) : cutS T (some (a : Int)) (some ((a : Int) + (k : Int))) = ⟨(((cs T).drop a).take k).toArray⟩ := by
  unfold cutS
  rw [show ((a : Int) + (k : Int)) = ((a + k : Nat) : Int) by omega, HT.sIx_nat, HT.sIx_nat]
  have e1 : min a T.length = a := by omega
  rw [e1]
  have e2 : List.take (min (a + k) T.length - a) ((cs T).drop a) = List.take k ((cs T).drop a) := by
    by_cases hk : a + k ≤ T.length
    · rw [show min (a + k) T.length - a = k by omega]
    · rw [List.take_of_length_le (by rw [List.length_drop, cs_len]; omega), List.take_of_length_le (by rw [List.length_drop, cs_len]; omega)]
  rw [← e2]
theorem atI_c {l : List Nat} {i c : Nat} (h : l[i]? = some c) : atI l (i : Int) = some c := by
  have hi := (List.getElem?_eq_some_iff.mp h).1
  unfold atI ixN
  rw [if_pos (by omega), if_pos (by omega)]
  exact h
def S_word_at : Spec := fun ds P _ => ∃ (T : Str) (a : Nat), ds = [.str T, .int a] ∧ T.length ≤ 16777216 ∧ a ≤ T.length ∧ P (.tup [.str ⟨(wd (cs T) a).toArray⟩, .int ((a + (wd (cs T) a).length : Nat) : Int)])
theorem word_loop {T : Str} {a : Nat} {k : EndsD} (hT : T.length ≤ 16777216) : ∀ (m e : Nat), a ≤ e → e + m = a + (wd (cs T) a).length → a ≤ T.length →
    k.nx [.fz (.str T), .fz (.int a), .fz (.int ((a + (wd (cs T) a).length : Nat) : Int))] →
    whileN (dAnd (dTest (dOp fLt (dVar 2) (dB (on1 fLen) (dCons (dVar 0) (dNil))))) (dTest (dOp fIn (dOp fIx (dVar 0) (dVar 2)) (dC (.str "abcdefghijklmnopqrstuvwxyz"))))) (dAug 2 (dC (.int 1)) (fun a b => a + b)) (m + 1) [.fz (.str T), .fz (.int a), .fz (.int e)] k
  | 0, e, h1, h2, h3, h => by
    unfold whileN
    simp [hT]
    have he : e = a + (wd (cs T) a).length := by omega
    have h : k.nx [.fz (.str T), .fz (.int a), .fz (.int e)] := by rw [he]; exact h
    split
    · rename_i hlt
      have hlt' : e < (cs T).length := by rw [cs_len]; omega
      obtain ⟨c, hc⟩ : ∃ c, (cs T)[e]? = some c := ⟨_, List.getElem?_eq_getElem hlt'⟩
      refine ⟨_, atI_c hc, ?_⟩
      have hs := wd_at (L := cs T) (a := a) (by rw [← he]; exact hc)
      simp [sign?]
      have hs : ¬ c ∈ (("abcdefghijklmnopqrstuvwxyz" : Str).cps : Array Nat) := by simpa [smallB] using hs
      rw [if_neg hs]
      exact h
    · exact h
  | m + 1, e, h1, h2, h3, h => by
    unfold whileN
    simp [hT]
    have hle := wd_le (L := cs T) (a := a) (by rw [cs_len]; exact h3)
    rw [cs_len] at hle
    rw [if_pos (by omega)]
    obtain ⟨c, hc, hs⟩ := wd_lt (L := cs T) (a := a) (e := e) h1 (by omega)
    refine ⟨c, atI_c hc, ?_⟩
    simp [sign?]
    have hs : c ∈ (("abcdefghijklmnopqrstuvwxyz" : Str).cps : Array Nat) := by simpa [smallB] using hs
    rw [if_pos hs]
    exact word_loop hT m (e + 1) (by omega) (by omega) h3 h
theorem p_word_at : ∀ ds Q Ex, S_word_at ds Q Ex → t_word_at (startD 3 ds) (endsOf Q Ex) := by
  rintro _ Q Ex ⟨T, a, rfl, hT, ha, h⟩
  simp [t_word_at]
  refine ⟨(wd (cs T) a).length + 1, word_loop hT _ a (Nat.le_refl _) rfl ha ?_⟩
  simp [hT]
  have e := cut_at (T := T) (a := a) (k := (wd (cs T) a).length) ha
  rw [show ((a : Int) + ((wd (cs T) a).length : Int)) = ((a + (wd (cs T) a).length : Nat) : Int) by omega] at e
  have e2 : ((cs T).drop a).take (wd (cs T) a).length = wd (cs T) a := tw_take _
  rw [e2] at e
  simp only [Int.natCast_add] at e h ⊢
  rw [e]
  exact h
end AU

/-! AuP3: plain laws: the reader of a program. -/
namespace AU
open PySem L2 PySem.Spec PyProof.Rows
def parse (L : List Nat) : Nat → Nat → Option Pg × Nat
  | 0, a => if L[a + (wd L a).length]? = some 40 then (none, a + (wd L a).length) else (some (.mark ⟨(wd L a).toArray⟩), a + (wd L a).length)
  | n + 1, a => if L[a + (wd L a).length]? = some 40 then (if wayB ⟨(wd L a).toArray⟩ = true then
      (match parse L n (a + (wd L a).length + 1) with
      | (none, c) => (none, c)
      | (some r, c) => if (L.drop c).take 2 = [44, 32] then (match parse L n (c + 2) with
        | (none, d) => (none, d)
        | (some s, d) => if L[d]? = some 41 then (some (.draw ⟨(wd L a).toArray⟩ r s), d + 1) else (none, d)) else (none, c)) else (none, a + (wd L a).length))
    else (some (.mark ⟨(wd L a).toArray⟩), a + (wd L a).length)
theorem take2_le {L : List Nat} {c : Nat} (h : (L.drop c).take 2 = [44, 32]) : c + 2 ≤ L.length := by
  have := congrArg List.length h
  rw [List.length_take, List.length_drop] at this
  simp at this
  omega
theorem some_lt {L : List Nat} {c x : Nat} (h : L[c]? = some x) : c < L.length := (List.getElem?_eq_some_iff.mp h).1
theorem parse_le (L : List Nat) : ∀ (n a : Nat), a ≤ L.length → (parse L n a).2 ≤ L.length
  | 0, a, h => by
    unfold parse
    split <;> exact wd_le h
  | n + 1, a, h => by
    unfold parse
    split
    · rename_i h1
      have h1 := some_lt h1
      split
      · have h2 := parse_le L n (a + (wd L a).length + 1) (by omega)
        split
        · rename_i e; rw [e] at h2; exact h2
        · rename_i e; rw [e] at h2
          split
          · rename_i h3
            have h4 := parse_le L n _ (take2_le h3)
            split
            · rename_i e; rw [e] at h4; exact h4
            · rename_i e; rw [e] at h4
              split
              · rename_i h5; exact some_lt h5
              · exact h4
          · exact h2
      · exact wd_le h
    · exact wd_le h
def optD : Option Pg → D
  | none => .non
  | some p => p.d
def S_program_at (N : Nat) : Spec := fun ds P _ => ∃ (T : Str) (a n : Nat), ds = [.str T, .int a, .int n] ∧ n ≤ N ∧ T.length ≤ 16777216 ∧ a ≤ T.length ∧ P (.tup [optD (parse (cs T) n a).1, .int ((parse (cs T) n a).2 : Nat)])
theorem lit_p : ("(" : Str) = ⟨#[40]⟩ ∧ (", " : Str) = ⟨#[44, 32]⟩ ∧ (")" : Str) = ⟨#[41]⟩ := by decide +kernel
theorem take1 {L : List Nat} {a x : Nat} : (L.drop a).take 1 = [x] ↔ L[a]? = some x := by
  have e : L[a]? = (L.drop a)[0]? := by rw [List.getElem?_drop]; rfl
  rw [e]
  cases L.drop a with
  | nil => simp
  | cons y r => simp
theorem str_eq {a b : List Nat} : ((⟨a.toArray⟩ : Str) = ⟨b.toArray⟩) ↔ a = b := by
  constructor
  · intro h
    have := congrArg (fun z : Str => z.cps.toList) h
    simpa using this
  · rintro rfl; rfl
theorem cut1 {T : Str} {a x : Nat} (h : a ≤ T.length) : (cutS T (some (a : Int)) (some ((a : Int) + 1)) = (⟨#[x]⟩ : Str)) ↔ (cs T)[a]? = some x := by
  have e := cut_at (T := T) (a := a) (k := 1) h
  rw [show (((1 : Nat) : Int)) = 1 from rfl] at e
  rw [e, ← take1]
  exact str_eq (b := [x])
theorem cut2 {T : Str} {a x y : Nat} (h : a ≤ T.length) : (cutS T (some (a : Int)) (some ((a : Int) + 2)) = (⟨#[x, y]⟩ : Str)) ↔ ((cs T).drop a).take 2 = [x, y] := by
  have e := cut_at (T := T) (a := a) (k := 2) h
  rw [show (((2 : Nat) : Int)) = 2 from rfl] at e
  rw [e]
  exact str_eq (b := [x, y])
theorem way_in {w : Str} : inL (.str w) [.str "back", .str "aside", .str "more", .str "other"] = wayB w := by
  rw [Bool.eq_iff_iff]
  simp [wayB, inL, deq, @eq_comm Str w]
theorem optD_non {o : Option Pg} : isNon (optD o) = o.isNone := by
  cases o with
  | none => rfl
  | some p => cases p <;> rfl
theorem p_program_at (N : Nat) (SR : Spec) (hr : ∀ ds P Ex, N ≠ 0 → S_program_at (N - 1) ds P Ex → SR ds P Ex) : ∀ ds Q Ex, S_program_at N ds Q Ex → t_program_at S_word_at SR (startD 6 ds) (endsOf Q Ex) := by
  rintro _ Q Ex ⟨T, a, n, rfl, hn, hT, ha, h⟩
  obtain ⟨q1, q2, q3⟩ := lit_p
  have hw := wd_le (L := cs T) (a := a) (by rw [cs_len]; exact ha)
  rw [cs_len] at hw
  simp [t_program_at]
  refine ⟨T, a, rfl, hT, ha, ?_⟩
  simp [hT]
  have hpl := parse_le (cs T) n a (by rw [cs_len]; exact ha)
  rw [show ((a : Int) + ((wd (cs T) a).length : Int)) = ((a + (wd (cs T) a).length : Nat) : Int) by omega]
  have c40 := cut1 (T := T) (a := a + (wd (cs T) a).length) (x := 40) hw
  rw [← q1] at c40
  by_cases h40 : (cs T)[a + (wd (cs T) a).length]? = some 40
  · have hlt := some_lt h40
    rw [cs_len] at hlt
    rw [if_pos (c40.mpr h40), way_in]
    cases n with
    | zero =>
      unfold parse at h
      rw [if_pos h40] at h
      split
      · rw [if_pos rfl]; exact h
      · exact h
    | succ n =>
      unfold parse at h
      rw [if_pos h40] at h
      by_cases hwy : wayB ⟨(wd (cs T) a).toArray⟩ = true
      · rw [if_pos hwy] at h ⊢
        rw [if_neg (by omega)]
        have h2 := parse_le (cs T) n (a + (wd (cs T) a).length + 1) (by rw [cs_len]; omega)
        rw [cs_len] at h2
        refine hr _ _ _ (by omega) ⟨T, a + (wd (cs T) a).length + 1, n, by simp, by omega, hT, by omega, ?_⟩
        generalize parse (cs T) n (a + (wd (cs T) a).length + 1) = r1 at h h2
        obtain ⟨o1, c⟩ := r1
        cases o1 with
        | none => simpa [optD] using h
        | some r =>
          have hr0 := optD_non (o := some r)
          simp only [optD] at hr0
          have c2 := cut2 (T := T) (a := c) (x := 44) (y := 32) h2
          rw [← q2] at c2
          simp [optD]
          simp at hr0
          rw [hr0]
          by_cases h44 : ((cs T).drop c).take 2 = [44, 32]
          · rw [if_pos (c2.mpr h44)]
            simp only [h44, if_true] at h
            have h3 := take2_le h44
            rw [cs_len] at h3
            have h4 := parse_le (cs T) n (c + 2) (by rw [cs_len]; omega)
            rw [cs_len] at h4
            simp
            refine hr _ _ _ (by omega) ⟨T, c + 2, n, by simp, by omega, hT, by omega, ?_⟩
            generalize parse (cs T) n (c + 2) = r2 at h h4
            obtain ⟨o2, d⟩ := r2
            cases o2 with
            | none => simpa [optD] using h
            | some s =>
              have hs0 := optD_non (o := some s)
              simp only [optD] at hs0
              have c3 := cut1 (T := T) (a := d) (x := 41) h4
              rw [← q3] at c3
              simp at hs0
              simp [optD, hs0]
              by_cases h41 : (cs T)[d]? = some 41
              · rw [if_pos (c3.mpr h41)]
                simp only [h41, if_true] at h
                simpa [optD, Pg.d] using h
              · rw [if_neg (fun z => h41 (c3.mp z))]
                simp only [h41, if_false] at h
                simpa [optD] using h
          · rw [if_neg (fun z => h44 (c2.mp z))]
            simp only [h44, if_false] at h
            simpa [optD] using h
      · rw [if_neg hwy] at h ⊢
        exact h
  · rw [if_neg (fun z => h40 (c40.mp z))]
    have e : parse (cs T) n a = (some (.mark ⟨(wd (cs T) a).toArray⟩), a + (wd (cs T) a).length) := by
      cases n <;> · unfold parse; rw [if_neg h40]
    rw [e] at h
    exact h
def readF (T : Str) : Option Pg := match parse (cs T) 6 0 with
  | (some p, c) => if c < T.length then none else if p.ok 6 = true then some p else none
  | (none, _) => none
def S_read : Spec := fun ds P Ex => ∃ T, ds = [.str T] ∧ T.length ≤ 16777216 ∧ match readF T with
  | some p => P p.d
  | none => Ex "BadText"
theorem parse_fit (L : List Nat) (hL : L.length ≤ 16777216) : ∀ (n a : Nat) (p : Pg) (c : Nat), a ≤ L.length → parse L n a = (some p, c) → p.fit
  | 0, a, p, c, ha, h => by
    unfold parse at h
    split at h
    · cases h
    · cases h
      have := wd_le ha
      show (wd L a).toArray.size ≤ _
      simp
      omega
  | n + 1, a, p, c, ha, h => by
    have hwl : (⟨(wd L a).toArray⟩ : Str).length ≤ 16777216 := by
      have := wd_le ha
      show (wd L a).toArray.size ≤ _
      simp
      omega
    unfold parse at h
    split at h
    · rename_i h1
      have h1 := some_lt h1
      split at h
      · have h2 := parse_le L n (a + (wd L a).length + 1) (by omega)
        split at h
        · cases h
        · rename_i e
          split at h
          · rename_i h3
            have h4 := take2_le h3
            split at h
            · cases h
            · rename_i e2
              split at h
              · cases h
                exact ⟨hwl, parse_fit L hL n _ _ _ (by omega) e, parse_fit L hL n _ _ _ h4 e2⟩
              · cases h
          · cases h
      · cases h
    · cases h
      exact hwl
theorem p_read : ∀ ds Q Ex, S_read ds Q Ex → t_read (S_program_at 6) S_is_program (startD 3 ds) (endsOf Q Ex) := by
  rintro _ Q Ex ⟨T, rfl, hT, h⟩
  simp [t_read]
  refine ⟨T, 0, 6, rfl, Nat.le_refl _, hT, Nat.zero_le _, ?_⟩
  unfold readF at h
  have hf := parse_fit (cs T) (by rw [cs_len]; exact hT) 6 0
  generalize parse (cs T) 6 0 = r at h hf
  obtain ⟨o, c⟩ := r
  cases o with
  | none => simpa [optD] using h
  | some p =>
    have h0 := optD_non (o := some p)
    simp only [optD] at h0
    simp at h0
    simp [optD, h0, hT]
    simp only at h
    by_cases hc : c < T.length
    · rw [if_pos hc] at h ⊢
      exact h
    · rw [if_neg hc] at h ⊢
      refine ⟨p.d, rfl, Pg.kn 7 (hf p c (Nat.zero_le _) rfl), ?_⟩
      rw [Pg.within]
      by_cases hp : p.ok 6 = true
      · rw [if_pos hp] at h
        simpa [hp] using h
      · rw [if_neg hp] at h
        simpa [hp] using h
end AU

/-! AuP4: the text of a program reads to it; the law's own defs. -/
namespace AU
open PySem L2 PySem.Spec PyProof.Rows
theorem cs_app (a b : Str) : cs (a ++ b) = cs a ++ cs b := by
  show (a.cps ++ b.cps).toList = _
  rw [Array.toList_append]
theorem cs_lit : cs ("(" : Str) = [40] ∧ cs (", " : Str) = [44, 32] ∧ cs (")" : Str) = [41] := by decide +kernel
theorem small_lit : smallB 40 = false ∧ smallB 41 = false ∧ smallB 44 = false := by decide +kernel
theorem word_small {w : Str} (h : wordB w = true) : ∀ c ∈ cs w, smallB c = true := by
  unfold wordB at h
  simp only [Bool.and_eq_true, List.all_eq_true] at h
  exact h.2.2
theorem way_small {w : Str} (h : wayB w = true) : ∀ c ∈ cs w, smallB c = true := by
  unfold wayB at h
  simp only [Bool.or_eq_true, decide_eq_true_eq] at h
  rcases h with h | h | h | h <;> (subst h; decide +kernel)
theorem tw_app {p : Nat → Bool} : ∀ {l r : List Nat}, (∀ c ∈ l, p c = true) → (∀ c, r.head? = some c → p c = false) → (l ++ r).takeWhile p = l
  | [], [], _, _ => rfl
  | [], x :: r, _, h => by
    rw [List.nil_append, List.takeWhile_cons, h x rfl]
    rfl
  | x :: l, r, h, h2 => by
    rw [List.cons_append, List.takeWhile_cons, h x List.mem_cons_self, if_pos rfl, tw_app (fun c hc => h c (List.mem_cons_of_mem _ hc)) h2]
theorem wd_app {pre l r : List Nat} (h : ∀ c ∈ l, smallB c = true) (h2 : ∀ c, r.head? = some c → smallB c = false) : wd (pre ++ (l ++ r)) pre.length = l := by
  unfold wd
  rw [List.drop_left]
  exact tw_app h h2
theorem at_app {pre l r : List Nat} : (pre ++ (l ++ r))[pre.length + l.length]? = r.head? := by
  rw [← List.append_assoc, show pre.length + l.length = (pre ++ l).length by rw [List.length_append], List.getElem?_append_right (Nat.le_refl _), Nat.sub_self]
  cases r <;> rfl
theorem mk_cs (w : Str) : (⟨(cs w).toArray⟩ : Str) = w := by
  obtain ⟨⟨l⟩⟩ := w
  rfl
/-- behind a program's text: no sign of a word, no ( -/
def Stop (r : List Nat) : Prop := ∀ c, r.head? = some c → smallB c = false ∧ c ≠ 40
theorem parse_text : ∀ (n : Nat) (p : Pg) (pre r : List Nat), p.ok n = true → Stop r → parse (pre ++ (cs p.text ++ r)) n pre.length = (some p, pre.length + (cs p.text).length)
  | n, .mark w, pre, r, h, hr => by
    have hw := word_small (Pg.ok_mark h)
    have e1 : wd (pre ++ (cs w ++ r)) pre.length = cs w := wd_app hw fun c hc => (hr c hc).1
    have e2 := at_app (pre := pre) (l := cs w) (r := r)
    have ne : ¬ r.head? = some 40 := fun z => (hr 40 z).2 rfl
    show parse (pre ++ (cs w ++ r)) n pre.length = (some (.mark w), pre.length + (cs w).length)
    cases n <;> · unfold parse; rw [e1, e2, if_neg ne, mk_cs]
  | 0, .draw _ _ _, _, _, h, _ => by cases h
  | n + 1, .draw w a b, pre, r, h, hr => by
    obtain ⟨m, hm, hw, ha, hb⟩ := Pg.ok_draw h
    have hm : m = n := by omega
    subst hm
    obtain ⟨l1, l2, l3⟩ := cs_lit
    obtain ⟨s1, s2, s3⟩ := small_lit
    have et : cs (Pg.text (.draw w a b)) = cs w ++ (40 :: (cs a.text ++ (44 :: 32 :: (cs b.text ++ [41])))) := by
      simp only [Pg.text, cs_app, l1, l2, l3, List.append_assoc, List.cons_append, List.nil_append]
    rw [et]
    have eL : pre ++ ((cs w ++ (40 :: (cs a.text ++ (44 :: 32 :: (cs b.text ++ [41]))))) ++ r) = pre ++ (cs w ++ (40 :: (cs a.text ++ (44 :: 32 :: (cs b.text ++ (41 :: r)))))) := by
      simp only [List.append_assoc, List.cons_append, List.nil_append]
    rw [eL]
    have e1 : wd (pre ++ (cs w ++ (40 :: (cs a.text ++ (44 :: 32 :: (cs b.text ++ (41 :: r))))))) pre.length = cs w := wd_app (way_small hw) fun c hc => by
      cases hc; exact s1
    have e2 := at_app (pre := pre) (l := cs w) (r := 40 :: (cs a.text ++ (44 :: 32 :: (cs b.text ++ (41 :: r)))))
    have ea := parse_text m a (pre ++ cs w ++ [40]) (44 :: 32 :: (cs b.text ++ (41 :: r))) ha (fun c hc => by cases hc; exact ⟨s3, by decide⟩)
    have eb := parse_text m b (pre ++ cs w ++ [40] ++ cs a.text ++ [44, 32]) (41 :: r) hb (fun c hc => by cases hc; exact ⟨s2, by decide⟩)
    simp only [List.append_assoc, List.cons_append, List.nil_append, List.length_append, List.length_cons, List.length_nil] at ea eb
    unfold parse
    rw [e1, e2, List.head?_cons, if_pos rfl, mk_cs, if_pos hw]
    rw [show pre.length + (cs w).length + 1 = pre.length + ((cs w).length + (0 + 1)) by omega, ea]
    dsimp only
    have d2 : ((pre ++ (cs w ++ (40 :: (cs a.text ++ (44 :: 32 :: (cs b.text ++ (41 :: r))))))).drop (pre.length + ((cs w).length + (0 + 1)) + (cs a.text).length)).take 2 = [44, 32] := by
      have : pre ++ (cs w ++ (40 :: (cs a.text ++ (44 :: 32 :: (cs b.text ++ (41 :: r)))))) = (pre ++ cs w ++ [40] ++ cs a.text) ++ (44 :: 32 :: (cs b.text ++ (41 :: r))) := by simp
      rw [this, show pre.length + ((cs w).length + (0 + 1)) + (cs a.text).length = (pre ++ cs w ++ [40] ++ cs a.text).length by simp; omega, List.drop_left]
      rfl
    rw [if_pos d2]
    rw [show pre.length + ((cs w).length + (0 + 1)) + (cs a.text).length + 2 = pre.length + ((cs w).length + ((cs a.text).length + (0 + 1 + 1) + 1)) by omega] 
    rw [eb]
    dsimp only
    have d3 : (pre ++ (cs w ++ (40 :: (cs a.text ++ (44 :: 32 :: (cs b.text ++ (41 :: r)))))))[pre.length + ((cs w).length + ((cs a.text).length + (0 + 1 + 1) + 1)) + (cs b.text).length]? = some 41 := by
      have : pre ++ (cs w ++ (40 :: (cs a.text ++ (44 :: 32 :: (cs b.text ++ (41 :: r)))))) = (pre ++ cs w ++ [40] ++ cs a.text ++ [44, 32] ++ cs b.text) ++ (41 :: r) := by simp
      rw [this, show pre.length + ((cs w).length + ((cs a.text).length + (0 + 1 + 1) + 1)) + (cs b.text).length = (pre ++ cs w ++ [40] ++ cs a.text ++ [44, 32] ++ cs b.text).length by simp; omega, List.getElem?_append_right (Nat.le_refl _), Nat.sub_self]
      rfl
    rw [if_pos d3]
    congr 1
    simp
    omega
theorem read_text {p : Pg} (h : p.ok 6 = true) : readF p.text = some p := by
  have e := parse_text 6 p [] [] h (fun c hc => by cases hc)
  simp only [List.nil_append, List.append_nil, List.length_nil, Nat.zero_add] at e
  unfold readF
  rw [e]
  dsimp only
  rw [cs_len, if_neg (Nat.lt_irrefl _), if_pos h]
end AU

/-! AuP5: the laws' own defs that several share. -/
namespace AU
open PySem L2 PySem.Spec PyProof.Rows
def wayL : List D := [.str "back", .str "aside", .str "more", .str "other"]
def S__law_ways : Spec := fun ds P _ => ds = [] ∧ P (.lst wayL)
theorem p__law_ways : ∀ ds Q Ex, S__law_ways ds Q Ex → t__law_ways (startD 0 ds) (endsOf Q Ex) := by
  rintro _ Q Ex ⟨rfl, h⟩
  simp [t__law_ways]
  exact h
theorem marks_ok : wordB "hit" = true ∧ wordB "miss" = true ∧ wordB "back" = true := by decide +kernel
theorem ways_ok : wayB "back" = true ∧ wayB "aside" = true ∧ wayB "more" = true ∧ wayB "other" = true := by decide +kernel
theorem atI_2 {a b c : D} {r : Int} (h0 : 0 ≤ r) (h3 : r < 3) : (r = 0 ∧ atI [a, b, c] r = some a) ∨ (r = 1 ∧ atI [a, b, c] r = some b) ∨ (r = 2 ∧ atI [a, b, c] r = some c) := by
  have : r = 0 ∨ r = 1 ∨ r = 2 := by omega
  rcases this with rfl | rfl | rfl
  · exact .inl ⟨rfl, atI0⟩
  · exact .inr (.inl ⟨rfl, atI1⟩)
  · exact .inr (.inr ⟨rfl, atI2⟩)
theorem way_at {r : Int} (h0 : 0 ≤ r) (h4 : r < 4) : ∃ w, wayB w = true ∧ atI wayL r = some (.str w) := by
  have : r = 0 ∨ r = 1 ∨ r = 2 ∨ r = 3 := by omega
  obtain ⟨w1, w2, w3, w4⟩ := ways_ok
  rcases this with rfl | rfl | rfl | rfl
  · exact ⟨_, w1, atI0⟩
  · exact ⟨_, w2, atI1⟩
  · exact ⟨_, w3, atI2⟩
  · exact ⟨_, w4, atI3⟩
def S__law_program (N : Nat) : Spec := fun ds P _ => ∃ n : Nat, ds = [.drw, .int n] ∧ n ≤ N ∧ ∀ p : Pg, p.ok n = true → P p.d
theorem p__law_program (N : Nat) (SR : Spec) (hr : ∀ ds P Ex, N ≠ 0 → S__law_program (N - 1) ds P Ex → SR ds P Ex) : ∀ ds Q Ex, S__law_program N ds Q Ex → t__law_program S__law_draw S__law_ways SR (startD 3 ds) (endsOf Q Ex) := by
  rintro _ Q Ex ⟨n, rfl, hn, h⟩
  have hm : ∀ w, wordB w = true → Q (.tup [.str "mark", .str w]) := fun w hw => h (.mark w) (by cases n <;> exact hw)
  have hmark : S__law_draw [.drw, .int 3] (fun d => match d with
      | .int i => ∃ d, atI [D.str "hit", .str "miss", .str "back"] i = some d ∧ Q (.tup [.str "mark", d])
      | _ => False) (fun c => Ex c) := by
    refine ⟨3, rfl, by decide, by decide, fun r h0 h3 => ?_⟩
    obtain ⟨w1, w2, w3⟩ := marks_ok
    rcases atI_2 (a := .str "hit") (b := .str "miss") (c := .str "back") h0 h3 with ⟨rfl, e⟩ | ⟨rfl, e⟩ | ⟨rfl, e⟩
    · exact ⟨_, e, hm _ w1⟩
    · exact ⟨_, e, hm _ w2⟩
    · exact ⟨_, e, hm _ w3⟩
  simp [t__law_program]
  by_cases h0 : n = 0
  · rw [if_pos h0]
    exact hmark
  · rw [if_neg h0]
    refine ⟨5, rfl, by decide, by decide, fun r r0 r5 => ?_⟩
    simp
    split
    · exact hmark
    · refine ⟨rfl, ?_⟩
      simp
      refine ⟨4, rfl, by decide, by decide, fun r r0 r4 => ?_⟩
      obtain ⟨w, hw, ew⟩ := way_at r0 r4
      simp
      refine ⟨_, ew, ?_⟩
      obtain ⟨m, rfl⟩ : ∃ m, n = m + 1 := ⟨n - 1, by omega⟩
      refine hr _ _ _ (by omega) ⟨m, by simp, by omega, fun a ha => ?_⟩
      refine hr _ _ _ (by omega) ⟨m, by simp, by omega, fun b hb => ?_⟩
      exact h (.draw w a b) (by show (wayB w && (a.ok m && b.ok m)) = true; rw [hw, ha, hb]; rfl)
theorem p__law_text (N : Nat) (SR : Spec) (hr : ∀ ds P Ex, N ≠ 0 → S_text_of (N - 1) ds P Ex → SR ds P Ex) : ∀ ds Q Ex, S_text_of N ds Q Ex → t__law_text SR (startD 1 ds) (endsOf Q Ex) := by
  rintro _ Q Ex ⟨p, n, rfl, hn, hN, hp, h⟩
  cases p with
  | mark w => simpa [t__law_text, Pg.d, Pg.text] using h
  | draw w a b =>
    obtain ⟨m, rfl, hw, ha, hb⟩ := Pg.ok_draw hp
    have l0 := way_len hw
    have l1 := Pg.text_small ha (by omega)
    have l2 := Pg.text_small hb (by omega)
    obtain ⟨q1, q2, q3⟩ := len_p
    simp [t__law_text, Pg.d]
    refine ⟨by omega, ?_⟩
    refine hr _ _ _ (by omega) ⟨a, m, rfl, by omega, by omega, ha, ?_⟩
    simp
    refine ⟨by simp only [len_app]; omega, by simp only [len_app]; omega, ?_⟩
    refine hr _ _ _ (by omega) ⟨b, m, rfl, by omega, by omega, hb, ?_⟩
    simp
    exact ⟨by simp only [len_app]; omega, by simp only [len_app]; omega, h⟩
/-- whole numbers, texts, tuples and lists of these, so deep -/
def Pl : Nat → D → Prop
  | _, .int _ => True
  | _, .str _ => True
  | _, .non => True
  | _, .bl _ => True
  | n + 1, .tup ds => ds.length ≤ 16777216 ∧ ∀ d ∈ ds, Pl n d
  | n + 1, .lst ds => ds.length ≤ 16777216 ∧ ∀ d ∈ ds, Pl n d
  | _, _ => False
def S__law_like (N : Nat) : Spec := fun ds P _ => ∃ d, ds = [d, d] ∧ Pl N d ∧ P (.bl true)
theorem like_loop {SR : Spec} {k : EndsD} {x : D} {ds : List D} (hx : x = .tup ds ∨ x = .lst ds) (hs : ∀ d ∈ ds, ∀ (P : D → Prop) (Ex : Str → Prop), P (.bl true) → SR [d, d] P Ex) (hk : ∀ c, k.nx [.fz x, .fz x, c, .un]) :
    ∀ (js : List D) (c : Cell), (∀ j ∈ js, ∃ i : Nat, j = .int i ∧ i < ds.length) →
      forN (dgN 2) (dIfS (dNot (dTru (dCall SR (dCons (dOp fIx (dVar 0) (dVar 2)) (dCons (dOp fIx (dVar 1) (dVar 2)) (dNil)))))) (dRet (dC (.bl false))) (dNext)) js [.fz x, .fz x, c, .un] k
  | [], c, _ => hk c
  | j :: js, c, h => by
    obtain ⟨i, rfl, hi⟩ := h j List.mem_cons_self
    have e : ds[i]? = some ds[i] := List.getElem?_eq_getElem hi
    have ih := like_loop hx hs hk js (.fz (.int i)) fun j hj => h j (List.mem_cons_of_mem _ hj)
    unfold forN
    have ea : atI ds (i : Int) = some ds[i] := by rw [atI_n hi, e]
    rcases hx with rfl | rfl <;>
    · simp
      refine ⟨_, ea, _, ea, hs _ (List.getElem_mem hi) _ _ ?_⟩
      simp
      exact ih
theorem p__law_like (N : Nat) (SR : Spec) (hr : ∀ ds P Ex, N ≠ 0 → S__law_like (N - 1) ds P Ex → SR ds P Ex) : ∀ ds Q Ex, S__law_like N ds Q Ex → t__law_like SR (startD 4 ds) (endsOf Q Ex) := by
  rintro _ Q Ex ⟨d, rfl, hd, h⟩
  have go : ∀ (ds : List D), N ≠ 0 → (∀ d ∈ ds, Pl (N - 1) d) → ∀ d ∈ ds, ∀ (P : D → Prop) (Ex : Str → Prop), P (.bl true) → SR [d, d] P Ex := fun ds h0 hp d hm P Ex hP => hr _ _ _ h0 ⟨d, rfl, hp d hm, hP⟩
  have rg : ∀ (n : Nat) (ds : List D), ds.length = n → ∀ j ∈ rangeD 0 n, ∃ i : Nat, j = .int i ∧ i < ds.length := fun n ds hl j hj => by
    obtain ⟨i, hi, rfl⟩ := List.mem_map.mp hj
    exact ⟨i, by simp, by have := List.mem_range.mp hi; omega⟩
  cases d with
  | int i => simpa [t__law_like] using h
  | str x => simpa [t__law_like] using h
  | non => simpa [t__law_like] using h
  | bl b => simpa [t__law_like] using h
  | tup ds =>
    cases N with
    | zero => exact hd.elim
    | succ N =>
      obtain ⟨hl, hp⟩ := hd
      simp [t__law_like]
      refine ⟨by omega, like_loop (.inl rfl) (go ds (by omega) hp) (fun c => ?_) _ _ (rg _ ds rfl)⟩
      simpa using h
  | lst ds =>
    cases N with
    | zero => exact hd.elim
    | succ N =>
      obtain ⟨hl, hp⟩ := hd
      simp [t__law_like]
      refine ⟨by omega, like_loop (.inr rfl) (go ds (by omega) hp) (fun c => ?_) _ _ (rg _ ds rfl)⟩
      simpa using h
  | _ => cases N <;> exact hd.elim
theorem Pg.pl : ∀ {n : Nat} {p : Pg}, p.ok n = true → Pl (n + 1) p.d
  | n, .mark w, _ => ⟨by simp, fun d hd => by
    rcases List.mem_cons.mp hd with e | hd
    · subst e; cases n <;> trivial
    · rcases List.mem_cons.mp hd with e | hd
      · subst e; cases n <;> trivial
      · cases hd⟩
  | 0, .draw _ _ _, h => by cases h
  | n + 1, .draw w a b, h => ⟨by simp, fun d hd => by
    obtain ⟨m, hm, hw, ha, hb⟩ := Pg.ok_draw h
    have hm : m = n := by omega
    subst hm
    rcases List.mem_cons.mp hd with e | hd
    · subst e; trivial
    · rcases List.mem_cons.mp hd with e | hd
      · subst e; trivial
      · rcases List.mem_cons.mp hd with e | hd
        · subst e; exact Pg.pl ha
        · rcases List.mem_cons.mp hd with e | hd
          · subst e; exact Pg.pl hb
          · cases hd⟩
end AU

/-! AuT2: the readings of the defs (printed by mkt2.py). -/
namespace AU
open PySem L2 PySem.Spec PyProof.Rows
def t_is_whole : DS := dRet (dAndV (dOn (fIsi "int") (dVar 0)) (dNotV (dOn (fIsi "bool") (dVar 0))))
def b1_common : DB := dTru (dVar 1)
def b2_common : DS := dPar 0 1 (dCons (dVar 1) (dCons (dOp fMod (dVar 0) (dVar 1)) (dNil)))
def t_common : DS := dSeq (dWhile (b1_common) (b2_common)) (dRet (dB (on1 fAbs) (dCons (dVar 0) (dNil))))
def t_lowest (S_common : Spec) : DS := dSeq (dSet 2 (dCall S_common (dCons (dVar 0) (dCons (dVar 1) (dNil))))) (dSeq (dIfS (dTest (dOp fLt (dVar 1) (dC (.int 0)))) (dSet 2 (dUn fNeg (dVar 2))) (dNext)) (dRet (dTup (dCons (dOp fDiv (dVar 0) (dVar 2)) (dCons (dOp fDiv (dVar 1) (dVar 2)) (dNil))))))
def t_cleaned : DS := dRet (dDcT (iSeq (dB (on1 fSortT) (dCons (dVar 0) (dNil)))) (dgN 1) (dTest (dOp fNe (dGetF (dVar 0) (dVar 1)) (dC (.int 0)))) (dVar 1) (dGetF (dVar 0) (dVar 1)) [1])
def b1_added (S_cleaned : Spec) : DS := dPutO 3 (dVar 4) (dOp fAdd (dGetO 3 (dVar 4) (dC (.int 0))) (dOp fMul (dVar 2) (dGetF (dVar 1) (dVar 4))))
def t_added (S_cleaned : Spec) : DS := dSeq (dOwn 3 (dB (on1 fDict) (dCons (dVar 0) (dNil)))) (dSeq (dForD 1 (dgN 4) (b1_added S_cleaned)) (dFz 3 (dRet (dCall S_cleaned (dCons (dVar 3) (dNil))))))
def b1_multiplied (S_cleaned : Spec) : DS := dSeq (dSet 7 (dTup (dCons (dOp fAdd (dVar 3) (dVar 5)) (dCons (dOp fAdd (dVar 4) (dVar 6)) (dNil))))) (dPutO 2 (dVar 7) (dOp fAdd (dGetO 2 (dVar 7) (dC (.int 0))) (dOp fMul (dGetF (dVar 0) (dTup (dCons (dVar 3) (dCons (dVar 4) (dNil))))) (dGetF (dVar 1) (dTup (dCons (dVar 5) (dCons (dVar 6) (dNil))))))))
def b2_multiplied (S_cleaned : Spec) : DS := dForD 1 (dgTup (dgCons (dgN 5) (dgCons (dgN 6) (dgNil)))) (b1_multiplied S_cleaned)
def t_multiplied (S_cleaned : Spec) : DS := dSeq (dOwn 2 (dC (.dT []))) (dSeq (dForD 0 (dgTup (dgCons (dgN 3) (dgCons (dgN 4) (dgNil)))) (b2_multiplied S_cleaned)) (dFz 2 (dRet (dCall S_cleaned (dCons (dVar 2) (dNil))))))
def b1_with_parts (S_multiplied : Spec) : DS := dSet 0 (dCall S_multiplied (dCons (dVar 0) (dCons (dDispT [(dTup (dCons (dC (.int 1)) (dCons (dC (.int 0)) (dNil))), dC (.int 1)), (dTup (dCons (dC (.int 0)) (dCons (dC (.int 1)) (dNil))), dC (.int 1)), (dTup (dCons (dC (.int 0)) (dCons (dC (.int 0)) (dNil))), dVar 2)]) (dNil))))
def t_with_parts (S_multiplied : Spec) : DS := dSeq (dFor (iSeq (dVar 1)) (dgN 2) (b1_with_parts S_multiplied)) (dRet (dVar 0))
def b1_power_of : DS := dSet 2 (dOp fMul (dVar 2) (dVar 0))
def t_power_of : DS := dSeq (dSet 2 (dC (.int 1))) (dSeq (dFor (iRange1 (dCons (dVar 1) (dNil))) (dgN 3) (b1_power_of)) (dRet (dVar 2)))
def t_value_of (S_power_of : Spec) : DS := dRet (dB (on1 fSum) (dCons (dLcP (pV 0) (dgTup (dgCons (dgN 3) (dgCons (dgN 4) (dgNil)))) (dYes) (dOp fMul (dOp fMul (dGetF (dVar 0) (dTup (dCons (dVar 3) (dCons (dVar 4) (dNil))))) (dCall S_power_of (dCons (dVar 1) (dCons (dVar 3) (dNil))))) (dCall S_power_of (dCons (dVar 2) (dCons (dVar 4) (dNil))))) [3, 4]) (dNil)))
def b1_lacking : DS := dIfS (dInO 2 (dVar 4)) (dRemO 2 (dVar 4)) (dIsOwn 3 (dAppend 3 (dVar 4)))
def t_lacking : DS := dSeq (dOwn 2 (dB (on1 fList) (dCons (dVar 0) (dNil)))) (dSeq (dOwn 3 (dLst (dNil))) (dSeq (dFor (iSeq (dVar 1)) (dgN 4) (b1_lacking)) (dFz 3 (dRet (dVar 3)))))
def t_is_key (S_is_whole : Spec) : DS := dSeq (dIfS (dOr (dNot (dTru (dOn (fIsi "tuple") (dVar 0)))) (dTest (dOp fNe (dB (on1 fLen) (dCons (dVar 0) (dNil))) (dC (.int 2))))) (dRet (dC (.bl false))) (dNext)) (dRet (dB (on1 fAll) (dCons (dLc (iSeq (dVar 0)) (dgN 1) (dYes) (dAndV (dCall S_is_whole (dCons (dVar 1) (dNil))) (dOp fGe (dVar 1) (dC (.int 0)))) [1]) (dNil))))
def t_are_terms (S_is_whole : Spec) (S_is_key : Spec) : DS := dSeq (dIfS (dNot (dTru (dOn (fIsi "dict") (dVar 0)))) (dRet (dC (.bl false))) (dNext)) (dRet (dB (on1 fAll) (dCons (dLcP (pV 0) (dgN 1) (dYes) (dAndV (dCall S_is_key (dCons (dVar 1) (dNil))) (dCall S_is_whole (dCons (dGetF (dVar 0) (dVar 1)) (dNil)))) [1]) (dNil))))
def t_are_parts (S_is_whole : Spec) : DS := dRet (dAndV (dOn fIsLT (dVar 0)) (dB (on1 fAll) (dCons (dLc (iSeq (dVar 0)) (dgN 1) (dYes) (dCall S_is_whole (dCons (dVar 1) (dNil))) [1]) (dNil))))
def t_Chance_terms : DS := dRet (dB (on1 fDict) (dCons (dTop (dVar 0)) (dNil)))
def t_Chance_parts : DS := dRet (dBot (dVar 0))
def b1_Chance_at (S_lowest : Spec) (S_value_of : Spec) : DS := dSet 3 (dOp fMul (dVar 3) (dOp fAdd (dOp fAdd (dVar 1) (dVar 2)) (dVar 4)))
def t_Chance_at (S_lowest : Spec) (S_value_of : Spec) : DS := dSeq (dSet 3 (dC (.int 1))) (dSeq (dFor (iSeq (dBot (dVar 0))) (dgN 4) (b1_Chance_at S_lowest S_value_of)) (dSeq (dIfS (dTest (dOp fEq (dVar 3) (dC (.int 0)))) (dRaise "NoValue") (dNext)) (dRet (dCall S_lowest (dCons (dCall S_value_of (dCons (dTop (dVar 0)) (dCons (dVar 1) (dCons (dVar 2) (dNil))))) (dCons (dVar 3) (dNil)))))))
def t_Chance___add__ (S_summed : Spec) (S_chance_of : Spec) : DS := dRet (dCall S_summed (dCons (dVar 0) (dCons (dCall S_chance_of (dCons (dVar 1) (dNil))) (dCons (dC (.int 1)) (dNil)))))
def t_Chance___radd__ (S_summed : Spec) (S_chance_of : Spec) : DS := dRet (dCall S_summed (dCons (dCall S_chance_of (dCons (dVar 1) (dNil))) (dCons (dVar 0) (dCons (dC (.int 1)) (dNil)))))
def t_Chance___sub__ (S_summed : Spec) (S_chance_of : Spec) : DS := dRet (dCall S_summed (dCons (dVar 0) (dCons (dCall S_chance_of (dCons (dVar 1) (dNil))) (dCons (dUn fNeg (dC (.int 1))) (dNil)))))
def t_Chance___rsub__ (S_summed : Spec) (S_chance_of : Spec) : DS := dRet (dCall S_summed (dCons (dCall S_chance_of (dCons (dVar 1) (dNil))) (dCons (dVar 0) (dCons (dUn fNeg (dC (.int 1))) (dNil)))))
def t_Chance___mul__ (S_product : Spec) (S_chance_of : Spec) : DS := dRet (dCall S_product (dCons (dVar 0) (dCons (dCall S_chance_of (dCons (dVar 1) (dNil))) (dNil))))
def t_Chance___rmul__ (S_product : Spec) (S_chance_of : Spec) : DS := dRet (dCall S_product (dCons (dCall S_chance_of (dCons (dVar 1) (dNil))) (dCons (dVar 0) (dNil))))
def t_Chance___neg__ (S_Chance : Spec) : DS := dRet (dCall S_Chance (dCons (dDcTP (pTop 0) (dgN 1) (dYes) (dVar 1) (dUn fNeg (dGetF (dTop (dVar 0)) (dVar 1))) [1]) (dCons (dBot (dVar 0)) (dNil))))
def t_Chance___eq__ (S_are_same : Spec) : DS := dRet (dAndV (dOn fIsC (dVar 1)) (dCall S_are_same (dCons (dVar 0) (dCons (dVar 1) (dNil)))))
def t_chance_of (S_Chance : Spec) : DS := dRet (dIf (dTru (dOn fIsC (dVar 0))) (dVar 0) (dCall S_Chance (dCons (dDispT [(dTup (dCons (dC (.int 0)) (dCons (dC (.int 0)) (dNil))), dVar 0)]) (dCons (dTup (dNil)) (dNil)))))
def t_summed (S_Chance : Spec) (S_lacking : Spec) (S_added : Spec) (S_with_parts : Spec) : DS := dSeq (dPar 4 5 (dCons (dCall S_lacking (dCons (dBot (dVar 0)) (dCons (dBot (dVar 1)) (dNil)))) (dCons (dCall S_lacking (dCons (dBot (dVar 1)) (dCons (dBot (dVar 0)) (dNil)))) (dNil)))) (dSeq (dSet 3 (dCall S_added (dCons (dCall S_with_parts (dCons (dTop (dVar 0)) (dCons (dVar 4) (dNil)))) (dCons (dCall S_with_parts (dCons (dTop (dVar 1)) (dCons (dVar 5) (dNil)))) (dCons (dVar 2) (dNil)))))) (dRet (dCall S_Chance (dCons (dVar 3) (dCons (dOp fAdd (dB (on1 fList) (dCons (dBot (dVar 0)) (dNil))) (dVar 4)) (dNil))))))
def t_product (S_Chance : Spec) (S_multiplied : Spec) : DS := dRet (dCall S_Chance (dCons (dCall S_multiplied (dCons (dTop (dVar 0)) (dCons (dTop (dVar 1)) (dNil)))) (dCons (dOp fAdd (dBot (dVar 0)) (dBot (dVar 1))) (dNil))))
def t_are_same (S_lacking : Spec) (S_with_parts : Spec) : DS := dSeq (dPar 2 3 (dCons (dCall S_lacking (dCons (dBot (dVar 0)) (dCons (dBot (dVar 1)) (dNil)))) (dCons (dCall S_lacking (dCons (dBot (dVar 1)) (dCons (dBot (dVar 0)) (dNil)))) (dNil)))) (dRet (dOp fEqT (dCall S_with_parts (dCons (dTop (dVar 0)) (dCons (dVar 2) (dNil)))) (dCall S_with_parts (dCons (dTop (dVar 1)) (dCons (dVar 3) (dNil))))))
def t_nothing (S_Chance : Spec) : DS := dRet (dCall S_Chance (dCons (dC (.dT [])) (dCons (dTup (dNil)) (dNil))))
def t_turned : DS := dSeq (dSet 4 (dGetF (dDisp [(dC (.str "back"), dC (.int 0)), (dC (.str "aside"), dUn fNeg (dC (.int 1))), (dC (.str "more"), dC (.int 1)), (dC (.str "other"), dC (.int 0))]) (dVar 0))) (dSeq (dSet 5 (dIf (dTest (dOp fEq (dVar 0) (dC (.str "other")))) (dC (.int 1)) (dC (.int 0)))) (dSeq (dIfS (dTest (dOp fEq (dVar 1) (dC (.str "red")))) (dRet (dTup (dCons (dOp fAdd (dVar 2) (dVar 4)) (dCons (dOp fAdd (dVar 3) (dVar 5)) (dNil))))) (dNext)) (dRet (dTup (dCons (dOp fAdd (dVar 2) (dVar 5)) (dCons (dOp fAdd (dVar 3) (dVar 4)) (dNil)))))))
def b1_needed (S_needed : Spec) (S_turned : Spec) : DS := dIsOwn 2 (dAppend 2 (dCall S_needed (dCons (dVar 4) (dCons (dOp fAdd (dVar 1) (dB (on1 fSumT) (dCons (dCall S_turned (dCons (dOp fIx (dVar 0) (dC (.int 1))) (dCons (dVar 3) (dCons (dC (.int 0)) (dCons (dC (.int 0)) (dNil)))))) (dNil)))) (dNil)))))
def t_needed (S_needed : Spec) (S_turned : Spec) : DS := dSeq (dIfS (dTest (dOp fEq (dOp fIx (dVar 0) (dC (.int 0))) (dC (.str "mark")))) (dRet (dC (.int 0))) (dNext)) (dSeq (dOwn 2 (dLst (dCons (dOp fSub (dC (.int 1)) (dVar 1)) (dNil)))) (dSeq (dFor (iZip2 (dCons (dC (.tup [(.str "red"), (.str "blue")])) (dCons (dSl (dVar 0) (dPart (dC (.int 2))) (dNoP)) (dNil)))) (dgTup (dgCons (dgN 3) (dgCons (dgN 4) (dgNil)))) (b1_needed S_needed S_turned)) (dFz 2 (dRet (dB (on1 fMaxL) (dCons (dVar 2) (dNil)))))))
def t_need (S_check_program : Spec) (S_needed : Spec) : DS := dSeq (dDrop (dCall S_check_program (dCons (dVar 0) (dNil)))) (dRet (dB fMax2 (dCons (dC (.int 0)) (dCons (dCall S_needed (dCons (dVar 0) (dCons (dC (.int 0)) (dNil)))) (dNil)))))
def t_factor (S_Chance : Spec) : DS := dSeq (dSet 3 (dIf (dTest (dOp fEq (dVar 0) (dC (.str "red")))) (dDispT [(dTup (dCons (dC (.int 1)) (dCons (dC (.int 0)) (dNil))), dC (.int 1)), (dTup (dCons (dC (.int 0)) (dCons (dC (.int 0)) (dNil))), dVar 1)]) (dDispT [(dTup (dCons (dC (.int 0)) (dCons (dC (.int 1)) (dNil))), dC (.int 1)), (dTup (dCons (dC (.int 0)) (dCons (dC (.int 0)) (dNil))), dVar 2)]))) (dRet (dCall S_Chance (dCons (dVar 3) (dCons (dLst (dCons (dOp fAdd (dVar 1) (dVar 2)) (dNil))) (dNil)))))
def b1_all_chances (S_Chance : Spec) (S_o__mul__ : Spec) (S_o__add__ : Spec) (S_turned : Spec) (S_all_chances : Spec) (S_nothing : Spec) (S_factor : Spec) : DS := dPutO 3 (dVar 7) (dOp (fOwn S_o__add__) (dGetO 3 (dVar 7) (dCall S_nothing dNil)) (dOp (fOwn S_o__mul__) (dCall S_factor (dCons (dVar 4) (dCons (dVar 1) (dCons (dVar 2) (dNil))))) (dGetF (dVar 6) (dVar 7))))
def b2_all_chances (S_Chance : Spec) (S_o__mul__ : Spec) (S_o__add__ : Spec) (S_turned : Spec) (S_all_chances : Spec) (S_nothing : Spec) (S_factor : Spec) : DS := dSeq (dAsg (dCall S_turned (dCons (dOp fIx (dVar 0) (dC (.int 1))) (dCons (dVar 4) (dCons (dVar 1) (dCons (dVar 2) (dNil)))))) (dgTup (dgCons (dgN 8) (dgCons (dgN 9) (dgNil))))) (dSeq (dSet 6 (dCall S_all_chances (dCons (dVar 5) (dCons (dVar 8) (dCons (dVar 9) (dNil)))))) (dForD 6 (dgN 7) (b1_all_chances S_Chance S_o__mul__ S_o__add__ S_turned S_all_chances S_nothing S_factor)))
def t_all_chances (S_Chance : Spec) (S_o__mul__ : Spec) (S_o__add__ : Spec) (S_turned : Spec) (S_all_chances : Spec) (S_nothing : Spec) (S_factor : Spec) : DS := dSeq (dIfS (dTest (dOp fEq (dOp fIx (dVar 0) (dC (.int 0))) (dC (.str "mark")))) (dRet (dDisp [(dOp fIx (dVar 0) (dC (.int 1)), dCall S_Chance (dCons (dDispT [(dTup (dCons (dC (.int 0)) (dCons (dC (.int 0)) (dNil))), dC (.int 1))]) (dCons (dTup (dNil)) (dNil))))])) (dNext)) (dSeq (dOwn 3 (dC (.dS []))) (dSeq (dFor (iZip2 (dCons (dC (.tup [(.str "red"), (.str "blue")])) (dCons (dSl (dVar 0) (dPart (dC (.int 2))) (dNoP)) (dNil)))) (dgTup (dgCons (dgN 4) (dgCons (dgN 5) (dgNil)))) (b2_all_chances S_Chance S_o__mul__ S_o__add__ S_turned S_all_chances S_nothing S_factor)) (dFz 3 (dRet (dVar 3)))))
def t_found_chances (S_all_chances : Spec) : DS := dSeq (dSet 1 (dCall S_all_chances (dCons (dVar 0) (dCons (dC (.int 0)) (dCons (dC (.int 0)) (dNil)))))) (dRet (dDc (iSeq (dB (on1 fSortD) (dCons (dVar 1) (dNil)))) (dgN 2) (dYes) (dVar 2) (dGetF (dVar 1) (dVar 2)) [2]))
def t_chances (S_check_program : Spec) (S_found_chances : Spec) : DS := dSeq (dDrop (dCall S_check_program (dCons (dVar 0) (dNil)))) (dRet (dCall S_found_chances (dCons (dVar 0) (dNil))))
def b1_all_draws (S_Chance : Spec) (S_o__mul__ : Spec) (S_o__add__ : Spec) (S_nothing : Spec) (S_turned : Spec) (S_factor : Spec) (S_all_draws : Spec) : DS := dSeq (dAsg (dCall S_turned (dCons (dOp fIx (dVar 0) (dC (.int 1))) (dCons (dVar 4) (dCons (dVar 1) (dCons (dVar 2) (dNil)))))) (dgTup (dgCons (dgN 6) (dgCons (dgN 7) (dgNil))))) (dSet 3 (dOp (fOwn S_o__add__) (dVar 3) (dOp (fOwn S_o__mul__) (dCall S_factor (dCons (dVar 4) (dCons (dVar 1) (dCons (dVar 2) (dNil))))) (dCall S_all_draws (dCons (dVar 5) (dCons (dVar 6) (dCons (dVar 7) (dNil))))))))
def t_all_draws (S_Chance : Spec) (S_o__mul__ : Spec) (S_o__add__ : Spec) (S_nothing : Spec) (S_turned : Spec) (S_factor : Spec) (S_all_draws : Spec) : DS := dSeq (dIfS (dTest (dOp fEq (dOp fIx (dVar 0) (dC (.int 0))) (dC (.str "mark")))) (dRet (dCall S_nothing dNil)) (dNext)) (dSeq (dSet 3 (dCall S_Chance (dCons (dDispT [(dTup (dCons (dC (.int 0)) (dCons (dC (.int 0)) (dNil))), dC (.int 1))]) (dCons (dTup (dNil)) (dNil))))) (dSeq (dFor (iZip2 (dCons (dC (.tup [(.str "red"), (.str "blue")])) (dCons (dSl (dVar 0) (dPart (dC (.int 2))) (dNoP)) (dNil)))) (dgTup (dgCons (dgN 4) (dgCons (dgN 5) (dgNil)))) (b1_all_draws S_Chance S_o__mul__ S_o__add__ S_nothing S_turned S_factor S_all_draws)) (dRet (dVar 3))))
def t_mean_draws (S_check_program : Spec) (S_all_draws : Spec) : DS := dSeq (dDrop (dCall S_check_program (dCons (dVar 0) (dNil)))) (dRet (dCall S_all_draws (dCons (dVar 0) (dCons (dC (.int 0)) (dCons (dC (.int 0)) (dNil))))))
def t_check_urn (S_need : Spec) : DS := dIfS (dTest (dOp fLt (dOp fAdd (dVar 1) (dVar 2)) (dCall S_need (dCons (dVar 0) (dNil))))) (dRaise "TooFew") (dNext)
def ti_Chance (S_are_parts : Spec) (S_are_terms : Spec) (S_cleaned : Spec) : DS := dIfS (dOr (dNot (dTru (dCall S_are_terms (dCons (dVar 1) (dNil))))) (dNot (dTru (dCall S_are_parts (dCons (dVar 2) (dNil)))))) (dRaise "BadChance") (dNext)
def te1_Chance (S_are_parts : Spec) (S_are_terms : Spec) (S_cleaned : Spec) : DT := dCall S_cleaned (dCons (dVar 1) (dNil))
def te2_Chance (S_are_parts : Spec) (S_are_terms : Spec) (S_cleaned : Spec) : DT := dB (on1 fTuple) (dCons (dB (on1 fSortP) (dCons (dVar 2) (dNil))) (dNil))
end AU

/-! AuPo: plain mathematics: forms of two unknown numbers, fractions. -/
namespace AU
open PySem L2 PySem.Spec PyProof.Rows
abbrev Tm := List (List Int × Int)
def mono (k : List Int) (r b : Int) : Int := match k with
  | [i, j] => r ^ i.toNat * b ^ j.toNat
  | _ => 0
def ev : Tm → Int → Int → Int
  | [], _, _ => 0
  | q :: t, r, b => q.2 * mono q.1 r b + ev t r b
def nrm : Tm → Nat
  | [] => 0
  | q :: t => q.2.natAbs + nrm t
def keyOk (d : Nat) (k : List Int) : Prop := ∃ i j : Nat, k = [(i : Int), (j : Int)] ∧ i ≤ d ∧ j ≤ d
/-- a form as a dict: each key once, its exponents at most d, its numbers together at most 2 ^ e -/
structure Raw (d e : Nat) (t : Tm) : Prop where
  nd : (t.map (·.1)).Nodup
  ks : ∀ q ∈ t, keyOk d q.1
  nm : nrm t ≤ 2 ^ e
def klt (a b : List Int) : Prop := match a, b with
  | [i, j], [k, m] => i < k ∨ (i = k ∧ j < m)
  | _, _ => False
/-- .. rising, without noughts -/
structure Cano (t : Tm) : Prop where
  ris : (t.map (·.1)).Pairwise klt
  nz : ∀ q ∈ t, q.2 ≠ 0
theorem keyOk.mono {d d' : Nat} (h : d ≤ d') {k : List Int} (o : keyOk d k) : keyOk d' k := by
  obtain ⟨i, j, e, h1, h2⟩ := o
  exact ⟨i, j, e, Nat.le_trans h1 h, Nat.le_trans h2 h⟩
theorem Raw.mono {d d' e e' : Nat} {t : Tm} (h : Raw d e t) (hd : d ≤ d') (he : e ≤ e') : Raw d' e' t := ⟨h.nd, fun q hq => (h.ks q hq).mono hd, Nat.le_trans h.nm (Nat.pow_le_pow_right (by decide) he)⟩
/-! ### lists -/
theorem lookI_mem {t : Tm} (nd : (t.map (·.1)).Nodup) {q : List Int × Int} (h : q ∈ t) : lookI t q.1 = some q.2 := by
  unfold lookI
  induction t with
  | nil => cases h
  | cons x t ih =>
    rw [List.map_cons] at nd
    obtain ⟨n1, n2⟩ := List.nodup_cons.mp nd
    rw [List.find?_cons]
    rcases List.mem_cons.mp h with e | h
    · subst e; simp
    · have : ¬ x.1 = q.1 := fun z => n1 (by rw [z]; exact List.mem_map.mpr ⟨q, h, rfl⟩)
      rw [decide_eq_false this]
      exact ih n2 h
theorem lookI_none {t : Tm} {k : List Int} : lookI t k = none ↔ k ∉ t.map (·.1) := by
  unfold lookI
  rw [Option.map_eq_none_iff, List.find?_eq_none]
  constructor
  · intro h hm
    obtain ⟨q, hq, e⟩ := List.mem_map.mp hm
    exact h q hq (by simpa using e)
  · intro h q hq e
    exact h (List.mem_map.mpr ⟨q, hq, by simpa using e⟩)
theorem lookI_some {t : Tm} {k : List Int} {v : Int} (h : lookI t k = some v) : (k, v) ∈ t := by
  unfold lookI at h
  obtain ⟨q, hq, e⟩ := Option.map_eq_some_iff.mp h
  have h1 := List.mem_of_find?_eq_some hq
  have h2 := List.find?_some hq
  have e1 : q.1 = k := by simpa using h2
  rw [← e1, ← e]
  exact h1
def putI (t : Tm) (k : List Int) (v : Int) : Tm := if (t.any fun kv => decide (kv.1 = k)) = true then t.map (fun kv => if kv.1 = k then (kv.1, v) else kv) else t ++ [(k, v)]
@[simp] def dI (t : Tm) : List (List Int × D) := t.map fun q => (q.1, D.int q.2)
theorem getT_dI (t : Tm) (k : List Int) : getT (t.map fun q => (q.1, D.int q.2)) k = (lookI t k).map D.int := by
  unfold getT lookI
  induction t with
  | nil => rfl
  | cons q t ih =>
    rw [List.map_cons, List.find?_cons, List.find?_cons]
    by_cases h : q.1 = k
    · rw [decide_eq_true h]; rfl
    · rw [decide_eq_false h]; exact ih
theorem any_dI (t : Tm) (k : List Int) : ((t.map fun q => (q.1, D.int q.2)).any fun kv => decide (kv.1 = k)) = t.any fun kv => decide (kv.1 = k) := by
  rw [List.any_map]; rfl
theorem putT_dI (t : Tm) (k : List Int) (v : Int) : putT (t.map fun q => (q.1, D.int q.2)) k (.int v) = (putI t k v).map fun q => (q.1, D.int q.2) := by
  unfold putT putI
  rw [any_dI]
  split
  · rw [List.map_map, List.map_map]
    apply List.map_congr_left
    intro q _
    show (if q.1 = k then _ else _) = _
    by_cases h : q.1 = k
    · rw [if_pos h]; simp [h]
    · rw [if_neg h]; simp [h]
  · rw [List.map_append]; rfl
theorem any_key {t : Tm} {k : List Int} : (t.any fun kv => decide (kv.1 = k)) = true ↔ k ∈ t.map (·.1) := by
  rw [List.any_eq_true]
  constructor
  · rintro ⟨q, hq, e⟩
    exact List.mem_map.mpr ⟨q, hq, by simpa using e⟩
  · intro h
    obtain ⟨q, hq, e⟩ := List.mem_map.mp h
    exact ⟨q, hq, by simpa using e⟩
theorem putI_keys (t : Tm) (k : List Int) (v : Int) : (putI t k v).map (·.1) = if k ∈ t.map (·.1) then t.map (·.1) else t.map (·.1) ++ [k] := by
  unfold putI
  by_cases h : k ∈ t.map (·.1)
  · rw [if_pos (any_key.mpr h), if_pos h, List.map_map]
    apply List.map_congr_left
    intro q _
    show (if q.1 = k then (q.1, v) else q).1 = q.1
    split <;> rfl
  · rw [if_neg (fun z => h (any_key.mp z)), if_neg h, List.map_append]; rfl
theorem putI_nd {t : Tm} {k : List Int} {v : Int} (h : (t.map (·.1)).Nodup) : ((putI t k v).map (·.1)).Nodup := by
  rw [putI_keys]
  split
  · exact h
  · rename_i hn
    rw [List.nodup_append]
    refine ⟨h, by simp, fun a ha b hb e => ?_⟩
    have : b = k := by simpa using hb
    exact hn (by rw [← this, ← e]; exact ha)
theorem putI_mem {t : Tm} {k : List Int} {v : Int} {x : List Int} (h : x ∈ (putI t k v).map (·.1)) : x ∈ t.map (·.1) ∨ x = k := by
  rw [putI_keys] at h
  split at h
  · exact .inl h
  · rcases List.mem_append.mp h with h | h
    · exact .inl h
    · exact .inr (by simpa using h)
theorem putI_len (t : Tm) (k : List Int) (v : Int) : (putI t k v).length ≤ t.length + 1 := by
  unfold putI
  split
  · rw [List.length_map]; omega
  · rw [List.length_append]; simp
theorem ev_app (s t : Tm) (r b : Int) : ev (s ++ t) r b = ev s r b + ev t r b := by
  induction s with
  | nil => simp [ev]
  | cons q s ih => simp only [List.cons_append, ev, ih]; omega
theorem nrm_app (s t : Tm) : nrm (s ++ t) = nrm s + nrm t := by
  induction s with
  | nil => simp [nrm]
  | cons q s ih => simp only [List.cons_append, nrm, ih]; omega
theorem ev_repl {t : Tm} {k : List Int} {v : Int} (nd : (t.map (·.1)).Nodup) (r b : Int) :
    ev (t.map fun kv => if kv.1 = k then (kv.1, v) else kv) r b = ev t r b + (if k ∈ t.map (·.1) then (v - (lookI t k).getD 0) * mono k r b else 0) := by
  induction t with
  | nil => simp [ev]
  | cons q t ih =>
    rw [List.map_cons] at nd
    obtain ⟨n1, n2⟩ := List.nodup_cons.mp nd
    have ih := ih n2
    rw [List.map_cons, List.map_cons]
    by_cases h : q.1 = k
    · have hk : k ∉ t.map (·.1) := by rw [← h]; exact n1
      rw [if_neg hk] at ih
      have l : lookI (q :: t) k = some q.2 := by unfold lookI; rw [List.find?_cons, decide_eq_true h]; rfl
      rw [l]
      simp only [ev, h, if_true, ih, List.mem_cons, true_or, Option.getD_some]
      grind
    · have l : lookI (q :: t) k = lookI t k := by unfold lookI; rw [List.find?_cons, decide_eq_false h]
      rw [l, if_neg h]
      have hm : (k ∈ q.1 :: t.map (·.1)) ↔ k ∈ t.map (·.1) := by
        rw [List.mem_cons]
        exact ⟨fun z => z.elim (fun e => absurd e.symm h) id, .inr⟩
      simp only [ev, ih, hm]
      omega
theorem ev_put {t : Tm} {k : List Int} {v : Int} (nd : (t.map (·.1)).Nodup) (r b : Int) : ev (putI t k v) r b = ev t r b + (v - (lookI t k).getD 0) * mono k r b := by
  unfold putI
  by_cases h : k ∈ t.map (·.1)
  · rw [if_pos (any_key.mpr h), ev_repl nd, if_pos h]
  · rw [if_neg (fun z => h (any_key.mp z)), ev_app, lookI_none.mpr h]
    simp [ev]
theorem nrm_repl {t : Tm} {k : List Int} {v : Int} (nd : (t.map (·.1)).Nodup) : nrm (t.map fun kv => if kv.1 = k then (kv.1, v) else kv) ≤ nrm t + (v - (lookI t k).getD 0).natAbs := by
  induction t with
  | nil => simp [nrm]
  | cons q t ih =>
    rw [List.map_cons] at nd
    obtain ⟨n1, n2⟩ := List.nodup_cons.mp nd
    rw [List.map_cons]
    by_cases h : q.1 = k
    · have hk : k ∉ t.map (·.1) := by rw [← h]; exact n1
      have e : t.map (fun kv => if kv.1 = k then (kv.1, v) else kv) = t := by
        have : t.map (fun kv => if kv.1 = k then (kv.1, v) else kv) = t.map id := List.map_congr_left fun x hx => if_neg fun z => hk (List.mem_map.mpr ⟨x, hx, z⟩)
        rw [this, List.map_id]
      have l : lookI (q :: t) k = some q.2 := by unfold lookI; rw [List.find?_cons, decide_eq_true h]; rfl
      rw [l, e, if_pos h]
      simp only [nrm, Option.getD_some]
      omega
    · have l : lookI (q :: t) k = lookI t k := by unfold lookI; rw [List.find?_cons, decide_eq_false h]
      rw [l, if_neg h]
      have ih := ih n2
      simp only [nrm]
      omega
theorem nrm_put {t : Tm} {k : List Int} {v : Int} (nd : (t.map (·.1)).Nodup) : nrm (putI t k v) ≤ nrm t + (v - (lookI t k).getD 0).natAbs := by
  unfold putI
  by_cases h : k ∈ t.map (·.1)
  · rw [if_pos (any_key.mpr h)]; exact nrm_repl nd
  · rw [if_neg (fun z => h (any_key.mp z)), nrm_app, lookI_none.mpr h]
    simp [nrm]
theorem nrm_mem {t : Tm} {q : List Int × Int} (h : q ∈ t) : q.2.natAbs ≤ nrm t := by
  induction t with
  | nil => cases h
  | cons x t ih =>
    simp only [nrm]
    rcases List.mem_cons.mp h with e | h
    · subst e; omega
    · have := ih h; omega
theorem look_nrm (t : Tm) (k : List Int) : ((lookI t k).getD 0).natAbs ≤ nrm t := by
  cases h : lookI t k with
  | none => simp
  | some v => exact nrm_mem (lookI_some h)
theorem ev_perm {s t : Tm} (h : s.Perm t) (r b : Int) : ev s r b = ev t r b := by
  induction h with
  | nil => rfl
  | cons x _ ih => simp only [ev, ih]
  | swap x y l => simp only [ev]; omega
  | trans _ _ i1 i2 => exact i1.trans i2
theorem nrm_perm {s t : Tm} (h : s.Perm t) : nrm s = nrm t := by
  induction h with
  | nil => rfl
  | cons x _ ih => simp only [nrm, ih]
  | swap x y l => simp only [nrm]; omega
  | trans _ _ i1 i2 => exact i1.trans i2
theorem ev_nz (t : Tm) (r b : Int) : ev (t.filter fun q => decide (q.2 ≠ 0)) r b = ev t r b := by
  induction t with
  | nil => rfl
  | cons q t ih =>
    rw [List.filter_cons]
    by_cases h : q.2 = 0
    · rw [if_neg (by simp [h]), ih]; simp [ev, h]
    · rw [if_pos (by simp [h])]; simp only [ev, ih]
theorem nrm_filter (t : Tm) (f : List Int × Int → Bool) : nrm (t.filter f) ≤ nrm t := by
  induction t with
  | nil => exact Nat.le_refl _
  | cons q t ih =>
    rw [List.filter_cons]
    split
    · simp only [nrm]; omega
    · simp only [nrm]; omega
/-! ### how many keys there are -/
def codeK (k : List Int) : Nat := match k with
  | [i, j] => i.toNat * 24 + j.toNat
  | _ => 0
theorem code_inj {a b : List Int} (ha : keyOk 23 a) (hb : keyOk 23 b) (e : codeK a = codeK b) : a = b := by
  obtain ⟨i, j, rfl, h1, h2⟩ := ha
  obtain ⟨k, m, rfl, h3, h4⟩ := hb
  have e : i * 24 + j = k * 24 + m := by simpa [codeK] using e
  have : i = k := by omega
  have : j = m := by omega
  subst i; subst j; rfl
theorem nodup_range : ∀ {n : Nat} {l : List Nat}, l.Nodup → (∀ x ∈ l, x < n) → l.length ≤ n
  | 0, l, _, hl => by
    cases l with
    | nil => exact Nat.le_refl _
    | cons x r => exact absurd (hl x List.mem_cons_self) (Nat.not_lt_zero _)
  | n + 1, l, h, hl => by
    have h1 := nodup_range (n := n) (l := l.erase n) (h.erase n) fun x hx => by
      have h2 := (List.Nodup.mem_erase_iff h).mp hx
      have := hl x h2.2
      omega
    have h2 : l.length ≤ (l.erase n).length + 1 := by rw [List.length_erase]; split <;> omega
    omega
theorem Raw.len {d e : Nat} {t : Tm} (h : Raw d e t) (hd : d < 24) : t.length ≤ 576 := by
  have h1 : ((t.map (·.1)).map codeK).Nodup := by
    have nd := h.nd
    unfold List.Nodup at nd ⊢
    rw [List.pairwise_map]
    refine List.Pairwise.imp_of_mem (fun {a b} ha hb hne e => hne ?_) nd
    obtain ⟨q, hq, rfl⟩ := List.mem_map.mp ha
    obtain ⟨q', hq', rfl⟩ := List.mem_map.mp hb
    exact code_inj ((h.ks q hq).mono (by omega)) ((h.ks q' hq').mono (by omega)) e
  have h2 := nodup_range h1 (n := 576) fun x hx => by
    obtain ⟨k, hk, rfl⟩ := List.mem_map.mp hx
    obtain ⟨q, hq, rfl⟩ := List.mem_map.mp hk
    obtain ⟨i, j, e, a, b⟩ := h.ks q hq
    rw [e]
    simp [codeK]
    omega
  simpa using h2
theorem Raw.small {d e : Nat} {t : Tm} (h : Raw d e t) (hd : d < 24) : smallK (t.map fun q => (q.1, D.int q.2)) := by
  refine ⟨by rw [List.map_map]; exact h.nd, fun q hq => ?_⟩
  obtain ⟨x, hx, rfl⟩ := List.mem_map.mp hq
  obtain ⟨i, j, e, a, b⟩ := h.ks x hx
  exact ⟨i, j, e, by omega, by omega⟩
theorem klt_irrefl {a : List Int} : ¬ klt a a := by
  match a with
  | [] => exact id
  | [_] => exact id
  | [i, j] => show ¬ (i < i ∨ (i = i ∧ j < j)); omega
  | _ :: _ :: _ :: _ => exact id
theorem klt_asymm {a b : List Int} (h : klt a b) (h2 : klt b a) : False := by
  unfold klt at h h2
  split at h
  · simp at h2; omega
  · exact h
theorem Cano.nd {t : Tm} (h : Cano t) : (t.map (·.1)).Nodup := List.Pairwise.imp (R := klt) (fun {a b} h (e : a = b) => klt_irrefl (by rw [e] at h; exact h)) h.ris
/-- two canonical forms with the same entries are one -/
theorem Cano.ext {s t : Tm} (hs : Cano s) (ht : Cano t) (h : ∀ q, q ∈ s ↔ q ∈ t) : s = t := by
  have n1 : s.Nodup := List.Pairwise.of_map (·.1) (fun _ _ hne e => hne (congrArg _ e)) hs.nd
  have n2 : t.Nodup := List.Pairwise.of_map (·.1) (fun _ _ hne e => hne (congrArg _ e)) ht.nd
  have p : s.Perm t := (List.perm_ext_iff_of_nodup n1 n2).mpr h
  refine List.Perm.eq_of_pairwise (le := fun a b => klt a.1 b.1) (fun a b _ _ h1 h2 => (klt_asymm h1 h2).elim) (List.pairwise_map.mp hs.ris) (List.pairwise_map.mp ht.ris) p
theorem nil_form (d e : Nat) : Raw d e [] ∧ Cano [] := ⟨⟨.nil, (fun _ h => by cases h), Nat.zero_le _⟩, ⟨.nil, (fun _ h => by cases h)⟩⟩
end AU

/-! AuP7: plain laws: fractions, forms. -/
namespace AU
open PySem L2 PySem.Spec PyProof.Rows
theorem len_of {S : Spec} {n : Nat} (h : ∀ ds Q Ex, S ds Q Ex → ds.length = n) : ∀ ds Q Ex, S ds Q Ex → ds.length = n := h
/-! ### whole numbers -/
def isWhole : D → Bool
  | .int _ => true
  | _ => false
def S_is_whole : Spec := fun ds P _ => ∃ d, ds = [d] ∧ known d = true ∧ P (.bl (isWhole d))
theorem p_is_whole : ∀ ds Q Ex, S_is_whole ds Q Ex → t_is_whole (startD 1 ds) (endsOf Q Ex) := by
  rintro _ Q Ex ⟨d, rfl, hk, h⟩
  cases d <;> first | (simp [t_is_whole]; exact h) | (simp at hk)
def S_common : Spec := fun ds P _ => ∃ a b : Int, ds = [.int a, .int b] ∧ P (.int (Int.gcd a b))
theorem gcd_fmod (a b : Int) : Int.gcd b (a.fmod b) = Int.gcd a b := by
  rw [Int.fmod_def, Int.gcd_sub_mul_left_right, Int.gcd_comm]
theorem fmod_abs (a : Int) {b : Int} (h : b ≠ 0) : (a.fmod b).natAbs < b.natAbs := by
  by_cases hb : 0 < b
  · have h1 := Int.fmod_nonneg_of_pos a hb
    have h2 := Int.fmod_lt_of_pos a hb
    omega
  · have e : a.fmod b = -((-a).fmod (-b)) := by
      rw [Int.neg_fmod_neg a b, Int.neg_neg]
    have hb' : 0 < -b := by omega
    have h1 := Int.fmod_nonneg_of_pos (-a) hb'
    have h2 := Int.fmod_lt_of_pos (-a) hb'
    omega
theorem common_loop {k : EndsD} : ∀ (n : Nat) (a b : Int), b.natAbs < n → (∀ x : Int, x.natAbs = Int.gcd a b → k.nx [.fz (.int x), .fz (.int 0)]) → whileN b1_common b2_common n [.fz (.int a), .fz (.int b)] k
  | 0, a, b, h, _ => absurd h (Nat.not_lt_zero _)
  | n + 1, a, b, h, hk => by
    unfold whileN
    simp [b1_common]
    by_cases hb : b = 0
    · subst hb
      rw [if_pos rfl]
      exact hk a (by simp)
    · rw [if_neg hb]
      simp [b2_common]
      exact ⟨hb, common_loop n b (a.fmod b) (by have := fmod_abs a hb; omega) fun x hx => hk x (by rw [hx, gcd_fmod])⟩
theorem p_common : ∀ ds Q Ex, S_common ds Q Ex → t_common (startD 2 ds) (endsOf Q Ex) := by
  rintro _ Q Ex ⟨a, b, rfl, h⟩
  simp [t_common]
  refine ⟨b.natAbs + 1, common_loop _ a b (Nat.lt_succ_self _) fun x hx => ?_⟩
  simp
  rw [show ((x.natAbs : Nat) : Int) = (Int.gcd a b : Nat) by rw [hx]] 
  exact h
/-! ### fractions -/
def fr (q : Rat) : D := .tup [.int q.num, .int (q.den : Int)]
/-- sizes -/
def bd (n : Nat) (x : Int) : Prop := x.natAbs < 2 ^ n
theorem bd.log {n : Nat} {x : Int} (h : bd n x) (h0 : 0 < n) (hn : n ≤ 9000) : x.natAbs.log2 < 9000 := Nat.lt_of_lt_of_le (PySem.Flt.log2_lt_of h0 h) hn
theorem bd.mono {n m : Nat} {x : Int} (h : bd n x) (hm : n ≤ m) : bd m x := Nat.lt_of_lt_of_le h (Nat.pow_le_pow_right (by decide) hm)
theorem bd.mul {n m : Nat} {x y : Int} (h : bd n x) (h2 : bd m y) : bd (n + m) (x * y) := wide_lt h h2
theorem bd.ok {n m : Nat} {x y : Int} (h : bd n x) (h2 : bd m y) (hs : n + m ≤ 134217728) : IntMulOk x y := (mulx_ok h h2 hs).ok
theorem bd.add {n : Nat} {x y : Int} (h : bd n x) (h2 : bd n y) : bd (n + 1) (x + y) := by
  unfold bd at *
  rw [Nat.pow_succ]
  omega
theorem bd.sub {n : Nat} {x y : Int} (h : bd n x) (h2 : bd n y) : bd (n + 1) (x - y) := by
  unfold bd at *
  rw [Nat.pow_succ]
  omega
theorem num_le (t b : Int) : (Rat.divInt t b).num.natAbs ≤ t.natAbs := by
  rw [Rat.num_divInt]
  have h1 : (b.sign * t / (b.gcd t : Int)).natAbs ≤ (b.sign * t).natAbs := Int.natAbs_ediv_le_natAbs _ _
  have h2 : (b.sign * t).natAbs ≤ t.natAbs := by
    rw [Int.natAbs_mul]
    have : b.sign.natAbs ≤ 1 := by
      rcases Int.lt_trichotomy b 0 with h | h | h
      · rw [Int.sign_eq_neg_one_of_neg h]; decide
      · rw [h]; decide
      · rw [Int.sign_eq_one_of_pos h]; decide
    calc b.sign.natAbs * t.natAbs ≤ 1 * t.natAbs := Nat.mul_le_mul_right _ this
      _ = t.natAbs := Nat.one_mul _
  omega
theorem den_le (t : Int) {b : Int} (h : b ≠ 0) : (Rat.divInt t b).den ≤ b.natAbs := by
  rw [Rat.den_divInt, if_neg h]
  exact Nat.div_le_self _ _
/-- a fraction's size -/
def szR (n : Nat) (q : Rat) : Prop := bd n q.num ∧ q.den < 2 ^ n
theorem szR.of {n : Nat} {t b : Int} (h : bd n t) (hb : bd n b) (h0 : b ≠ 0) : szR n (Rat.divInt t b) :=
  ⟨Nat.lt_of_le_of_lt (num_le t b) h, Nat.lt_of_le_of_lt (den_le t h0) hb⟩
theorem szR.den {n : Nat} {q : Rat} (h : szR n q) : bd n (q.den : Int) := by
  have := h.2
  unfold bd
  simpa using this
theorem szR.mono {n m : Nat} {q : Rat} (h : szR n q) (hm : n ≤ m) : szR m q := ⟨h.1.mono hm, Nat.lt_of_lt_of_le h.2 (Nat.pow_le_pow_right (by decide) hm)⟩
def S_lowest : Spec := fun ds P _ => ∃ t b : Int, ds = [.int t, .int b] ∧ b ≠ 0 ∧ bd 8000 t ∧ bd 8000 b ∧ P (fr (Rat.divInt t b))
theorem low_num (t : Int) {b g : Int} (hb : b ≠ 0) (hg : g = b.sign * (Int.gcd t b : Nat)) : t.fdiv g = (Rat.divInt t b).num ∧ b.fdiv g = ((Rat.divInt t b).den : Int) := by
  have g0 : (Int.gcd t b : Nat) ≠ 0 := fun z => hb (Int.gcd_eq_zero_iff.mp z).2
  rw [Rat.num_divInt, Rat.den_divInt, if_neg hb, Int.gcd_comm b t]
  have dt : (Int.gcd t b : Int) ∣ t := Int.gcd_dvd_left _ _
  have db : (Int.gcd t b : Int) ∣ b := Int.gcd_dvd_right _ _
  obtain ⟨x, hx⟩ := dt
  obtain ⟨y, hy⟩ := db
  generalize (Int.gcd t b) = n at *
  have n0 : (n : Int) ≠ 0 := by simpa using g0
  rcases Int.lt_or_lt_of_ne hb with h | h
  · rw [Int.sign_eq_neg_one_of_neg h] at *
    have hg : g = -(n : Int) := by omega
    have gn : g ≠ 0 := by omega
    have hy0 : y < 0 := by
      rcases Int.lt_or_le y 0 with q | q
      · exact q
      · have : (0:Int) ≤ n * y := Int.mul_nonneg (by omega) q
        omega
    constructor
    · rw [show t = g * (-x) by rw [hx, hg]; grind, Int.mul_fdiv_cancel_left _ gn]
      rw [show -1 * (g * -x) = (n : Int) * (-x) by rw [hg]; grind, Int.mul_ediv_cancel_left _ n0]
    · rw [show b = g * (-y) by rw [hy, hg]; grind, Int.mul_fdiv_cancel_left _ gn]
      have : (g * -y).natAbs / n = y.natAbs := by
        rw [hg, Int.natAbs_mul, Int.natAbs_neg, Int.natAbs_neg]
        show n * y.natAbs / n = _
        exact Nat.mul_div_cancel_left _ (by omega)
      rw [this]
      omega
  · rw [Int.sign_eq_one_of_pos h] at *
    have hg : g = (n : Int) := by omega
    have hy0 : 0 < y := by
      rcases Int.lt_or_le 0 y with q | q
      · exact q
      · have : (n:Int) * y ≤ 0 := Int.mul_nonpos_of_nonneg_of_nonpos (by omega) q
        omega
    constructor
    · rw [hg, hx, Int.mul_fdiv_cancel_left _ n0, Int.one_mul, Int.mul_ediv_cancel_left _ n0]
    · rw [hg]
      conv => lhs; rw [hy, Int.mul_fdiv_cancel_left _ n0]
      have : b.natAbs / n = y.natAbs := by
        rw [hy, Int.natAbs_mul]
        show n * y.natAbs / n = _
        exact Nat.mul_div_cancel_left _ (by omega)
      rw [this]
      omega
theorem p_lowest : ∀ ds Q Ex, S_lowest ds Q Ex → t_lowest S_common (startD 3 ds) (endsOf Q Ex) := by
  rintro _ Q Ex ⟨t, b, rfl, hb, z1, z2, h⟩
  have g0 : (Int.gcd t b : Nat) ≠ 0 := fun z => hb (Int.gcd_eq_zero_iff.mp z).2
  have gl : Int.gcd t b ≤ b.natAbs := Nat.le_of_dvd (by omega) (Int.gcd_dvd_natAbs_right t b)
  have glog : (Int.gcd t b).log2 < 9000 := by
    have h1 : (Int.gcd t b) < 2 ^ 8000 := Nat.lt_of_le_of_lt gl z2
    exact Nat.lt_of_lt_of_le (PySem.Flt.log2_lt_of (by decide) h1) (by decide)
  simp [t_lowest]
  refine ⟨t, b, rfl, ?_⟩
  have go : ∀ g : Int, g = b.sign * (Int.gcd t b : Nat) → Q (.tup [.int (t.fdiv g), .int (b.fdiv g)]) := fun g hg => by
    obtain ⟨e1, e2⟩ := low_num t hb hg
    rw [e1, e2]
    exact h
  simp
  by_cases hn : b < 0
  · rw [if_pos hn]
    have z := go (-(Int.gcd t b : Int)) (by rw [Int.sign_eq_neg_one_of_neg hn]; omega)
    simpa [g0, glog, hb] using z
  · rw [if_neg hn]
    have z := go (Int.gcd t b : Int) (by rw [Int.sign_eq_one_of_pos (by omega)]; omega)
    simpa [g0, glog, hb] using z
end AU

/-! AuP8: plain laws: forms. -/
namespace AU
open PySem L2 PySem.Spec PyProof.Rows
/-! ### powers -/
theorem bd_pow {s : Nat} {x : Int} (h : bd s x) : ∀ k : Nat, (x ^ k).natAbs ≤ 2 ^ (s * k)
  | 0 => by simp
  | k + 1 => by
    have ih := bd_pow h k
    rw [Int.pow_succ, Int.natAbs_mul, Nat.mul_succ, Nat.pow_add]
    exact Nat.mul_le_mul ih (Nat.le_of_lt h)
theorem bd_pow' {s : Nat} {x : Int} (h : bd s x) (k : Nat) : bd (s * k + 1) (x ^ k) := by
  have := bd_pow h k
  unfold bd
  rw [Nat.pow_succ]
  have : 0 < 2 ^ (s * k) := Nat.pow_pos (by decide)
  omega
def S_power_of : Spec := fun ds P _ => ∃ (x : Int) (n : Nat), ds = [.int x, .int n] ∧ n ≤ 64 ∧ bd 64 x ∧ P (.int (x ^ n))
theorem power_loop {x : Int} {cn : Cell} {k : EndsD} (hx : bd 64 x) {n : Nat} (hn : n ≤ 64) (hk : ∀ c, k.nx [.fz (.int x), cn, .fz (.int (x ^ n)), c]) : ∀ (js : List D) (j : Nat) (y : Int) (c : Cell), y = x ^ j → j + js.length = n →
    forN (dgN 3) b1_power_of js [.fz (.int x), cn, .fz (.int y), c] k
  | [], j, y, c, hy, h => by
    have : j = n := by simpa using h
    subst this hy
    exact hk c
  | d :: js, j, y, c, hy, h => by
    rw [List.length_cons] at h
    unfold forN
    simp [b1_power_of]
    refine ⟨by rw [hy]; exact (bd_pow' hx j).ok hx (by omega), ?_⟩
    exact power_loop hx hn hk js (j + 1) _ _ (by rw [hy]; exact (Int.pow_succ x j).symm) (by omega)
theorem rangeD_len (lo : Int) (n : Nat) : (rangeD lo n).length = n := by simp [rangeD]
theorem p_power_of : ∀ ds Q Ex, S_power_of ds Q Ex → t_power_of (startD 4 ds) (endsOf Q Ex) := by
  rintro _ Q Ex ⟨x, n, rfl, hn, hx, h⟩
  simp [t_power_of]
  refine ⟨by omega, ?_⟩
  exact power_loop hx hn (fun c => by simpa using h) (rangeD 0 n) 0 1 .un (by simp) (by rw [rangeD_len]; omega)
/-! ### the value of a form -/
abbrev tupK : List Int × Int → D := fun q => .tup (q.1.map D.int)
theorem pow2_pos (n : Nat) : 0 < 2 ^ n := Nat.pow_pos (by decide)
theorem sum_ev (t : Tm) (r b : Int) : (t.map fun q => q.2 * mono q.1 r b).sum = ev t r b := by
  induction t with
  | nil => rfl
  | cons q t ih => rw [List.map_cons, List.sum_cons, ih]; rfl
def S_value_of : Spec := fun ds P _ => ∃ (t : Tm) (r b : Int) (d e : Nat), ds = [termsD t, .int r, .int b] ∧ Raw d e t ∧ d < 24 ∧ e ≤ 3000 ∧ bd 64 r ∧ bd 64 b ∧ P (.int (ev t r b))
def vterm (t : Tm) (r b : Int) : D → D
  | .tup [.int i, .int j] => .int ((lookI t [i, j]).getD 0 * r ^ i.toNat * b ^ j.toNat)
  | _ => .non
theorem p_value_of : ∀ ds Q Ex, S_value_of ds Q Ex → t_value_of S_power_of (startD 5 ds) (endsOf Q Ex) := by
  rintro _ Q Ex ⟨t, r, b, d, e, rfl, hR, hd, he, hr, hb, h⟩
  simp [t_value_of]
  have hl := hR.len hd
  refine lcN_map (vterm t r b) _ [] _ (by simp; omega) ?_ ?_
  · intro x hx R hRR
    obtain ⟨q, hq, rfl⟩ := List.mem_map.mp hx
    obtain ⟨i, j, ek, hi, hj⟩ := hR.ks q hq
    have hlk : lookI t [(i : Int), (j : Int)] = some q.2 := by rw [← ek]; exact lookI_mem hR.nd hq
    have hR' : R (.int (q.2 * r ^ i * b ^ j)) := by
      have z := hRR
      simp [ek, vterm, hlk] at z
      exact z
    have q2 : bd (e + 1) q.2 := by
      have h1 := nrm_mem hq
      have h2 := hR.nm
      have := pow2_pos e
      unfold bd
      rw [Nat.pow_succ]
      omega
    simp [ek, getT_dI, hlk]
    refine ⟨r, i, by simp, by omega, hr, ?_⟩
    simp
    refine ⟨q2.ok (bd_pow' hr i) (by omega), ?_⟩
    refine ⟨b, j, by simp, by omega, hb, ?_⟩
    simp
    exact ⟨(q2.mul (bd_pow' hr i)).ok (bd_pow' hb j) (by omega), hR'⟩
  · refine ⟨t.map fun q => q.2 * mono q.1 r b, ?_, by rw [sum_ev]; exact h⟩
    rw [List.nil_append, List.map_map, ← nums_map]
    congr 1
    rw [List.map_map]
    apply List.map_congr_left
    intro q hq
    obtain ⟨i, j, ek, hi, hj⟩ := hR.ks q hq
    have hlk : lookI t [(i : Int), (j : Int)] = some q.2 := by rw [← ek]; exact lookI_mem hR.nd hq
    simp [ek, vterm, hlk, mono]
    exact Int.mul_assoc _ _ _
/-! ### cleaned -/
def S_cleaned : Spec := fun ds P _ => ∃ (t : Tm) (d e : Nat), ds = [termsD t] ∧ Raw d e t ∧ d < 24 ∧ ∀ u, Raw d e u → Cano u → (∀ r b, ev u r b = ev t r b) → P (termsD u)
abbrev k2 (m : Int × Int) : List Int := [m.1, m.2]
def selI (t : Tm) (ms : List (Int × Int)) : Tm := ms.filterMap fun m => match lookI t (k2 m) with
  | some v => if v = 0 then none else some (k2 m, v)
  | none => none
theorem selI_keys (t : Tm) (ms : List (Int × Int)) : ((selI t ms).map (·.1)).Sublist (ms.map k2) := by
  unfold selI
  induction ms with
  | nil => exact .slnil
  | cons m ms ih =>
    rw [List.filterMap_cons, List.map_cons]
    cases h : lookI t (k2 m) with
    | none => simp only []; exact ih.cons _
    | some v =>
      simp only []
      by_cases hv : v = 0
      · rw [if_pos hv]; exact ih.cons _
      · rw [if_neg hv]; exact ih.cons_cons _
theorem dict_turn {t : Tm} {P : List (List Int × D) → Prop} : ∀ (ms : List (Int × Int)) (acc : Tm), ms.Nodup → (∀ m ∈ ms, ∃ v, lookI t (k2 m) = some v) → (∀ m ∈ ms, k2 m ∉ acc.map (·.1)) → acc.length + ms.length ≤ 16777216 →
    P ((acc ++ selI t ms).map fun q => (q.1, D.int q.2)) →
    dcTN (dgN 1) (dTest (dOp (fEqB true) (dGetF (dVar 0) (dVar 1)) (dC (D.int 0)))) (dVar 1) (dGetF (dVar 0) (dVar 1)) [.fz (.dT (t.map fun q => (q.1, D.int q.2))), .un] (ms.map fun m => D.tup [D.int m.1, D.int m.2]) (acc.map fun q => (q.1, D.int q.2)) P
  | [], acc, _, _, _, _, h => by
    have : acc ++ selI t [] = acc := by simp [selI]
    rw [this] at h
    exact h
  | m :: ms, acc, nd, hin, hno, hl, h => by
    obtain ⟨v, hv⟩ := hin m List.mem_cons_self
    rw [List.length_cons] at hl
    obtain ⟨n1, n2⟩ := List.nodup_cons.mp nd
    have hv' : lookI t [m.1, m.2] = some v := hv
    unfold dcTN
    rw [List.map_cons]
    simp only [dgN, List.set, dTest, dOp, dGetF, dVar, dC, getF, List.getElem?_cons_zero, List.getElem?_cons_succ, keyP2, getT_dI, hv', Option.map_some, Option.some.injEq, exists_eq_left', fEqB, onB]
    by_cases h0 : v = 0
    · have hb : (true ^^ decide (v = 0)) = false := by simp [h0]
      rw [hb, if_neg Bool.false_ne_true]
      refine dict_turn ms acc n2 (fun m hm => hin m (List.mem_cons_of_mem _ hm)) (fun m hm => hno m (List.mem_cons_of_mem _ hm)) (by omega) ?_
      have : selI t (m :: ms) = selI t ms := by unfold selI; rw [List.filterMap_cons]; simp only [hv, h0, if_true]
      rw [this] at h
      exact h
    · have hb : (true ^^ decide (v = 0)) = true := by simp [h0]
      rw [hb, if_pos rfl]
      simp only [onK, keyP2, getT_dI, hv', Option.map_some, Option.some.injEq, exists_eq_left']
      refine ⟨by rw [List.length_map]; omega, ?_⟩
      rw [putT_dI]
      have hk : k2 m ∉ acc.map (·.1) := hno m List.mem_cons_self
      have e : putI acc [m.1, m.2] v = acc ++ [(k2 m, v)] := by unfold putI; rw [if_neg (fun z => hk (any_key.mp z))]
      rw [e]
      refine dict_turn ms (acc ++ [(k2 m, v)]) n2 (fun m hm => hin m (List.mem_cons_of_mem _ hm)) (fun x hx hm => ?_) (by rw [List.length_append]; simp; omega) ?_
      · rw [List.map_append] at hm
        rcases List.mem_append.mp hm with q | q
        · exact hno x (List.mem_cons_of_mem _ hx) q
        · have e2 : k2 x = k2 m := by simpa using q
          injection e2 with e3 e4
          injection e4 with e4 _
          exact n1 (by rw [show m = x from Prod.ext e3.symm e4.symm]; exact hx)
      · have : selI t (m :: ms) = (k2 m, v) :: selI t ms := by unfold selI; rw [List.filterMap_cons]; simp only [hv, h0, if_false]
        rw [this] at h
        rw [List.append_assoc]
        exact h
theorem fm_congr {α β : Type} {f g : α → Option β} : ∀ {l : List α}, (∀ x ∈ l, f x = g x) → l.filterMap f = l.filterMap g
  | [], _ => rfl
  | x :: l, h => by rw [List.filterMap_cons, List.filterMap_cons, h x List.mem_cons_self, fm_congr fun y hy => h y (List.mem_cons_of_mem _ hy)]
theorem ev_selI {t : Tm} (nd : (t.map (·.1)).Nodup) {ms : List (Int × Int)} (hp : (ms.map k2).Perm (t.map (·.1))) : (selI t ms).Perm (t.filter fun q => decide (q.2 ≠ 0)) := by
  have e1 : selI t ms = (ms.map k2).filterMap (fun k => match lookI t k with
      | some v => if v = 0 then none else some (k, v)
      | none => none) := by
    unfold selI
    rw [List.filterMap_map]
    rfl
  rw [e1]
  refine (hp.filterMap _).trans (List.Perm.of_eq ?_)
  rw [List.filterMap_map, ← List.filterMap_eq_filter]
  apply fm_congr
  intro q hq
  show (match lookI t q.1 with
      | some v => if v = 0 then none else some (q.1, v)
      | none => none) = Option.guard (fun q : List Int × Int => decide (q.2 ≠ 0)) q
  rw [lookI_mem nd hq]
  by_cases h : q.2 = 0 <;> simp [Option.guard, h]
theorem keys2 {d e : Nat} {t : Tm} (h : Raw d e t) : ∃ ks : List (Int × Int), t.map (·.1) = ks.map k2 := by
  refine ⟨(t.map (·.1)).map fun k => (k.headD 0, (k.drop 1).headD 0), ?_⟩
  rw [List.map_map, List.map_map]
  apply List.map_congr_left
  intro q hq
  obtain ⟨i, j, e, _⟩ := h.ks q hq
  simp [e]
theorem p_cleaned : ∀ ds Q Ex, S_cleaned ds Q Ex → t_cleaned (startD 2 ds) (endsOf Q Ex) := by
  rintro _ Q Ex ⟨t, d, e, rfl, hR, hd, h⟩
  have hl := hR.len hd
  obtain ⟨ks, hks⟩ := keys2 hR
  simp [t_cleaned]
  refine ⟨ks, hks, fun ms hp hs => ?_⟩
  have hpk : (ms.map k2).Perm (t.map (·.1)) := by rw [hks]; exact hp.map k2
  have hnd : (ms.map k2).Nodup := hpk.nodup_iff.mpr hR.nd
  have hmn : ms.Nodup := List.Pairwise.of_map k2 (fun _ _ hne e => hne (congrArg _ e)) hnd
  refine dict_turn ms [] hmn (fun m hm => ?_) (fun _ _ z => by cases z) ?_ ?_
  · have : k2 m ∈ t.map (·.1) := hpk.mem_iff.mp (List.mem_map.mpr ⟨m, hm, rfl⟩)
    cases e : lookI t (k2 m) with
    | none => exact absurd this (lookI_none.mp e)
    | some v => exact ⟨v, rfl⟩
  · have := hpk.length_eq
    rw [List.length_map, List.length_map] at this
    simp
    omega
  · rw [List.nil_append]
    have pe := ev_selI hR.nd hpk
    refine h (selI t ms) ⟨?_, fun q hq => ?_, ?_⟩ ⟨?_, fun q hq => ?_⟩ fun r b => ?_
    · exact (selI_keys t ms).nodup hnd
    · have hq2 := pe.mem_iff.mp hq
      exact hR.ks q (List.mem_filter.mp hq2).1
    · rw [nrm_perm pe]
      exact Nat.le_trans (nrm_filter t _) hR.nm
    · refine List.Pairwise.sublist (selI_keys t ms) ?_
      rw [List.pairwise_map]
      have hs' : ms.Pairwise (fun x y => SrtO.lexB y x = false) := hs
      refine List.Pairwise.imp_of_mem (fun {a b} ha hb hab => ?_) (hs'.and hmn)
      obtain ⟨h1, h2⟩ := hab
      have h3 := SrtO.lexB_no.mp h1
      show a.1 < b.1 ∨ (a.1 = b.1 ∧ a.2 < b.2)
      have h4 : ¬ (a.1 = b.1 ∧ a.2 = b.2) := fun z => h2 (Prod.ext z.1 z.2)
      omega
    · have hq2 := pe.mem_iff.mp hq
      simpa using (List.mem_filter.mp hq2).2
    · rw [ev_perm pe, ev_nz]
end AU

/-! AuP9: plain laws: sums, products of forms; parts. -/
namespace AU
open PySem L2 PySem.Spec PyProof.Rows
/-- keys once each, exponents at most d -/
structure Ky (d : Nat) (t : Tm) : Prop where
  nd : (t.map (·.1)).Nodup
  ks : ∀ q ∈ t, keyOk d q.1
theorem Ky.raw {d e : Nat} {t : Tm} (h : Ky d t) (hn : nrm t ≤ 2 ^ e) : Raw d e t := ⟨h.nd, h.ks, hn⟩
theorem Ky.len {d : Nat} {t : Tm} (h : Ky d t) (hd : d < 24) : t.length ≤ 576 := (h.raw (e := nrm t) (Nat.le_of_lt Nat.lt_two_pow_self)).len hd
theorem Raw.ky {d e : Nat} {t : Tm} (h : Raw d e t) : Ky d t := ⟨h.nd, h.ks⟩
theorem Ky.put {d : Nat} {t : Tm} {k : List Int} {v : Int} (h : Ky d t) (hk : keyOk d k) : Ky d (putI t k v) := by
  refine ⟨putI_nd h.nd, fun q hq => ?_⟩
  rcases putI_mem (List.mem_map.mpr ⟨q, hq, rfl⟩) with z | z
  · obtain ⟨q', hq', e⟩ := List.mem_map.mp z
    rw [← e]
    exact h.ks q' hq'
  · rw [z]; exact hk
@[simp] theorem getD_dI (o : Option Int) : (o.map D.int).getD (.int 0) = .int (o.getD 0) := by cases o <;> rfl
theorem nrm_bd {t : Tm} {e : Nat} (h : nrm t ≤ 2 ^ e) {q : List Int × Int} (hq : q ∈ t) : bd (e + 1) q.2 := by
  have h1 := nrm_mem hq
  have := pow2_pos e
  unfold bd
  rw [Nat.pow_succ]
  omega
/-! ### sums -/
def S_added : Spec := fun ds P _ => ∃ (a b : Tm) (s : Int) (d e : Nat), ds = [termsD a, termsD b, .int s] ∧ Raw d e a ∧ Raw d e b ∧ (s = 1 ∨ s = -1) ∧ d < 24 ∧ e ≤ 3000 ∧ ∀ u, Raw d (e + 1) u → Cano u → (∀ r x, ev u r x = ev a r x + s * ev b r x) → P (termsD u)
theorem added_loop {S : Spec} {one : D} {o : Tm} {s : Int} {k : EndsD} {d e : Nat} (ho : Raw d e o) (hd : d < 24) (he : e ≤ 3000) (hs : s = 1 ∨ s = -1) : ∀ (rest f : Tm) (c : Cell), (∀ q ∈ rest, q ∈ o) → Ky d f →
    (∀ f' c, Ky d f' → nrm f' ≤ nrm f + nrm rest → (∀ r x, ev f' r x = ev f r x + s * ev rest r x) → k.nx [.fz one, .fz (termsD o), .fz (.int s), .ow (termsD f'), c]) →
    forN (dgN 4) (b1_added S) (rest.map tupK) [.fz one, .fz (termsD o), .fz (.int s), .ow (termsD f), c] k
  | [], f, c, _, hf, hk => hk f c hf (by simp [nrm]) (fun r x => by simp [ev])
  | q :: rest, f, c, hin, hf, hk => by
    have hq := hin q List.mem_cons_self
    obtain ⟨i, j, ek, hi, hj⟩ := ho.ks q hq
    have hlk : lookI o [(i : Int), (j : Int)] = some q.2 := by rw [← ek]; exact lookI_mem ho.nd hq
    rw [List.map_cons]
    unfold forN
    have hl := hf.len hd
    simp [b1_added, ek, getT_dI, hlk]
    refine ⟨?_, by omega, ?_⟩
    · have : bd 2 s := by unfold bd; omega
      exact this.ok (nrm_bd ho.nm hq) (by omega)
    · rw [putT_dI]
      refine added_loop (S := S) ho hd he hs rest (putI f [(i : Int), (j : Int)] ((lookI f [(i : Int), (j : Int)]).getD 0 + s * q.2)) _ (fun x hx => hin x (List.mem_cons_of_mem _ hx)) (hf.put ⟨i, j, rfl, hi, hj⟩) fun f' c hf' hn he' => hk f' c hf' ?_ fun r x => ?_
      · have h1 := nrm_put (t := f) (k := [(i : Int), (j : Int)]) (v := (lookI f [(i : Int), (j : Int)]).getD 0 + s * q.2) hf.nd
        have h2 : ((lookI f [(i : Int), (j : Int)]).getD 0 + s * q.2 - (lookI f [(i : Int), (j : Int)]).getD 0).natAbs = q.2.natAbs := by
          rcases hs with rfl | rfl <;> omega
        simp only [nrm]
        omega
      · rw [he', ev_put hf.nd]
        simp only [ev, ek]
        grind
theorem p_added : ∀ ds Q Ex, S_added ds Q Ex → t_added S_cleaned (startD 5 ds) (endsOf Q Ex) := by
  rintro _ Q Ex ⟨a, b, s, d, e, rfl, ha, hb, hs, hd, he, h⟩
  simp [t_added]
  refine ⟨ha.small hd, added_loop (S := S_cleaned) hb hd he hs b a .un (fun _ h => h) ha.ky fun f' c hf hn he' => ?_⟩
  simp
  refine ⟨f', d, e + 1, rfl, hf.raw ?_, hd, fun u hu hc hev => h u hu hc fun r x => by rw [hev, he']⟩
  have h1 := ha.nm
  have h2 := hb.nm
  rw [Nat.pow_succ]
  omega
/-! ### products -/
theorem mono_mul (i j k m : Nat) (r b : Int) : mono [((i : Int) + (k : Int)), ((j : Int) + (m : Int))] r b = mono [(i : Int), (j : Int)] r b * mono [(k : Int), (m : Int)] r b := by
  show r ^ ((i : Int) + (k : Int)).toNat * b ^ ((j : Int) + (m : Int)).toNat = (r ^ (i : Int).toNat * b ^ (j : Int).toNat) * (r ^ (k : Int).toNat * b ^ (m : Int).toNat)
  rw [show ((i : Int) + (k : Int)).toNat = i + k by omega, show ((j : Int) + (m : Int)).toNat = j + m by omega, Int.toNat_natCast, Int.toNat_natCast, Int.toNat_natCast, Int.toNat_natCast, Int.pow_add, Int.pow_add]
  grind
def S_multiplied : Spec := fun ds P _ => ∃ (a b : Tm) (da ea db eb : Nat), ds = [termsD a, termsD b] ∧ Raw da ea a ∧ Raw db eb b ∧ da + db < 24 ∧ ea + eb ≤ 3000 ∧ ∀ u, Raw (da + db) (ea + eb) u → Cano u → (∀ r x, ev u r x = ev a r x * ev b r x) → P (termsD u)
theorem mult_in {S : Spec} {a o : Tm} {k : EndsD} {da ea db eb i j : Nat} {v : Int} (ho : Raw db eb o) (hd : da + db < 24) (he : ea + eb ≤ 3000) (hi : i ≤ da) (hj : j ≤ da) (hv : lookI a [(i : Int), (j : Int)] = some v) (bv : bd (ea + 1) v) :
    ∀ (rest f : Tm) (c5 c6 c7 : Cell), (∀ q ∈ rest, q ∈ o) → Ky (da + db) f →
    (∀ f' c5 c6 c7, Ky (da + db) f' → nrm f' ≤ nrm f + v.natAbs * nrm rest → (∀ r x, ev f' r x = ev f r x + v * mono [(i : Int), (j : Int)] r x * ev rest r x) → k.nx [.fz (termsD a), .fz (termsD o), .ow (termsD f'), .fz (.int i), .fz (.int j), c5, c6, c7]) →
    forN (dgTup (dgCons (dgN 5) (dgCons (dgN 6) dgNil))) (b1_multiplied S) (rest.map tupK) [.fz (termsD a), .fz (termsD o), .ow (termsD f), .fz (.int i), .fz (.int j), c5, c6, c7] k
  | [], f, c5, c6, c7, _, hf, hk => hk f c5 c6 c7 hf (by simp [nrm]) (fun r x => by simp [ev])
  | q :: rest, f, c5, c6, c7, hin, hf, hk => by
    have hq := hin q List.mem_cons_self
    obtain ⟨x, y, ek, hx, hy⟩ := ho.ks q hq
    have hlk : lookI o [(x : Int), (y : Int)] = some q.2 := by rw [← ek]; exact lookI_mem ho.nd hq
    rw [List.map_cons]
    unfold forN
    have hl := hf.len hd
    simp [b1_multiplied, ek, getT_dI, hlk, hv]
    refine ⟨bv.ok (nrm_bd ho.nm hq) (by omega), by omega, ?_⟩
    rw [putT_dI]
    have hkk : keyOk (da + db) [((i : Int) + (x : Int)), ((j : Int) + (y : Int))] := ⟨i + x, j + y, by simp, by omega, by omega⟩
    refine mult_in (S := S) (ea := ea) ho hd he hi hj hv bv rest (putI f [((i : Int) + (x : Int)), ((j : Int) + (y : Int))] ((lookI f [((i : Int) + (x : Int)), ((j : Int) + (y : Int))]).getD 0 + v * q.2)) _ _ _ (fun x hx => hin x (List.mem_cons_of_mem _ hx)) (hf.put hkk) fun f' c5 c6 c7 hf' hn he' => hk f' c5 c6 c7 hf' ?_ fun r z => ?_
    · have h1 := nrm_put (t := f) (k := [((i : Int) + (x : Int)), ((j : Int) + (y : Int))]) (v := (lookI f [((i : Int) + (x : Int)), ((j : Int) + (y : Int))]).getD 0 + v * q.2) hf.nd
      have h2 : ((lookI f [((i : Int) + (x : Int)), ((j : Int) + (y : Int))]).getD 0 + v * q.2 - (lookI f [((i : Int) + (x : Int)), ((j : Int) + (y : Int))]).getD 0).natAbs = v.natAbs * q.2.natAbs := by
        rw [show (lookI f [((i : Int) + (x : Int)), ((j : Int) + (y : Int))]).getD 0 + v * q.2 - (lookI f [((i : Int) + (x : Int)), ((j : Int) + (y : Int))]).getD 0 = v * q.2 by omega, Int.natAbs_mul]
      simp only [nrm, Nat.mul_add]
      omega
    · rw [he', ev_put hf.nd, mono_mul]
      simp only [ev, ek]
      grind
theorem mult_out {S : Spec} {a o : Tm} {k : EndsD} {da ea db eb : Nat} (ha : Raw da ea a) (ho : Raw db eb o) (hd : da + db < 24) (he : ea + eb ≤ 3000) :
    ∀ (rest f : Tm) (c3 c4 c5 c6 c7 : Cell), (∀ q ∈ rest, q ∈ a) → Ky (da + db) f →
    (∀ f' c3 c4 c5 c6 c7, Ky (da + db) f' → nrm f' ≤ nrm f + nrm rest * nrm o → (∀ r x, ev f' r x = ev f r x + ev rest r x * ev o r x) → k.nx [.fz (termsD a), .fz (termsD o), .ow (termsD f'), c3, c4, c5, c6, c7]) →
    forN (dgTup (dgCons (dgN 3) (dgCons (dgN 4) dgNil))) (b2_multiplied S) (rest.map tupK) [.fz (termsD a), .fz (termsD o), .ow (termsD f), c3, c4, c5, c6, c7] k
  | [], f, c3, c4, c5, c6, c7, _, hf, hk => hk f c3 c4 c5 c6 c7 hf (by simp [nrm]) (fun r x => by simp [ev])
  | q :: rest, f, c3, c4, c5, c6, c7, hin, hf, hk => by
    have hq := hin q List.mem_cons_self
    obtain ⟨i, j, ek, hi, hj⟩ := ha.ks q hq
    have hlk : lookI a [(i : Int), (j : Int)] = some q.2 := by rw [← ek]; exact lookI_mem ha.nd hq
    rw [List.map_cons]
    unfold forN
    simp [b2_multiplied, ek]
    refine mult_in (S := S) (da := da) (ea := ea) ho hd he hi hj hlk (nrm_bd ha.nm hq) o f c5 c6 c7 (fun _ h => h) hf fun f1 c5 c6 c7 hf1 hn1 he1 => ?_
    refine mult_out (S := S) ha ho hd he rest f1 _ _ c5 c6 c7 (fun x hx => hin x (List.mem_cons_of_mem _ hx)) hf1 fun f' c3 c4 c5 c6 c7 hf' hn he' => hk f' c3 c4 c5 c6 c7 hf' ?_ fun r x => ?_
    · simp only [nrm, Nat.add_mul]
      omega
    · rw [he', he1]
      simp only [ev, ek]
      grind
theorem p_multiplied : ∀ ds Q Ex, S_multiplied ds Q Ex → t_multiplied S_cleaned (startD 8 ds) (endsOf Q Ex) := by
  rintro _ Q Ex ⟨a, b, da, ea, db, eb, rfl, ha, hb, hd, he, h⟩
  simp [t_multiplied]
  refine mult_out (S := S_cleaned) ha hb hd he a [] _ _ _ _ _ (fun _ h => h) ⟨.nil, (fun _ h => by cases h)⟩ fun f' c3 c4 c5 c6 c7 hf hn he' => ?_
  simp
  refine ⟨f', da + db, ea + eb, rfl, hf.raw ?_, hd, fun u hu hc hev => h u hu hc fun r x => by rw [hev, he']; simp [ev]⟩
  have h1 := Nat.mul_le_mul ha.nm hb.nm
  rw [Nat.pow_add]
  simp only [nrm] at hn
  omega
/-! ### parts -/
def prodP : List Int → Int → Int → Int
  | [], _, _ => 1
  | p :: ps, r, b => (r + b + p) * prodP ps r b
theorem prodP_app (s t : List Int) (r b : Int) : prodP (s ++ t) r b = prodP s r b * prodP t r b := by
  induction s with
  | nil => simp [prodP]
  | cons p s ih => simp only [List.cons_append, prodP, ih]; grind
theorem prodP_perm {s t : List Int} (h : s.Perm t) (r b : Int) : prodP s r b = prodP t r b := by
  induction h with
  | nil => rfl
  | cons x _ ih => simp only [prodP, ih]
  | swap x y l => simp only [prodP]; grind
  | trans _ _ i1 i2 => exact i1.trans i2
def partT (p : Int) : Tm := [([1, 0], 1), ([0, 1], 1), ([0, 0], p)]
theorem part_raw {p : Int} (hp : p.natAbs ≤ 1000) : Raw 1 10 (partT p) := by
  refine ⟨by show [[(1 : Int), 0], [0, 1], [0, 0]].Nodup; decide, fun q hq => ?_, ?_⟩
  · simp [partT] at hq
    rcases hq with rfl | rfl | rfl
    · exact ⟨1, 0, rfl, by omega, by omega⟩
    · exact ⟨0, 1, rfl, by omega, by omega⟩
    · exact ⟨0, 0, rfl, by omega, by omega⟩
  · simp [partT, nrm]
    omega
theorem part_ev (p r b : Int) : ev (partT p) r b = r + b + p := by
  simp [partT, ev, mono]
  grind
def S_with_parts : Spec := fun ds P _ => ∃ (t : Tm) (l : D) (ps : List Int) (d e : Nat), ds = [termsD t, l] ∧ (l = .lst (ps.map D.int) ∨ l = .tup (ps.map D.int)) ∧ Raw d e t ∧ Cano t ∧ (∀ p ∈ ps, p.natAbs ≤ 1000) ∧ d + ps.length < 24 ∧ e + 10 * ps.length ≤ 3000 ∧
  ∀ u, Raw (d + ps.length) (e + 10 * ps.length) u → Cano u → (∀ r x, ev u r x = ev t r x * prodP ps r x) → P (termsD u)
theorem merge_part (p : Int) : mergeT [([1, 0], D.int 1), ([0, 1], D.int 1), ([0, 0], D.int p)] = dI (partT p) := by
  simp [mergeT, putT, partT]
theorem parts_loop {l' : Cell} {k : EndsD} : ∀ (ps : List Int) (t : Tm) (d e : Nat) (c : Cell), Raw d e t → Cano t → (∀ p ∈ ps, p.natAbs ≤ 1000) → d + ps.length < 24 → e + 10 * ps.length ≤ 3000 →
    (∀ u c, Raw (d + ps.length) (e + 10 * ps.length) u → Cano u → (∀ r x, ev u r x = ev t r x * prodP ps r x) → k.nx [.fz (termsD u), l', c]) →
    forN (dgN 2) (b1_with_parts S_multiplied) (ps.map D.int) [.fz (termsD t), l', c] k
  | [], t, d, e, c, ht, hc, _, _, _, hk => hk t c ht hc (fun r x => by simp [prodP])
  | p :: ps, t, d, e, c, ht, hc, hp, hd, he, hk => by
    rw [List.length_cons] at hd he hk
    rw [List.map_cons]
    unfold forN
    simp [b1_with_parts]
    rw [merge_part]
    refine ⟨t, partT p, d, e, 1, 10, rfl, ht, part_raw (hp p List.mem_cons_self), by omega, by omega, fun u hu hcu hev => ?_⟩
    simp
    refine parts_loop ps u (d + 1) (e + 10) _ hu hcu (fun q hq => hp q (List.mem_cons_of_mem _ hq)) (by omega) (by omega) fun v c hv hcv hev2 => hk v c (hv.mono (by omega) (by omega)) hcv fun r x => ?_
    rw [hev2, hev, part_ev]
    simp only [prodP]
    grind
theorem p_with_parts : ∀ ds Q Ex, S_with_parts ds Q Ex → t_with_parts S_multiplied (startD 3 ds) (endsOf Q Ex) := by
  rintro _ Q Ex ⟨t, l, ps, d, e, rfl, hl, ht, hc, hp, hd, he, h⟩
  rcases hl with rfl | rfl <;>
  · simp [t_with_parts]
    refine parts_loop ps t d e _ ht hc hp hd he fun u c hu hcu hev => ?_
    simpa using h u hu hcu hev
end AU

/-! AuPa: plain laws: what lacks; chances. -/
namespace AU
open PySem L2 PySem.Spec PyProof.Rows
/-! ### lacking -/
def lackL : List Int → List Int → List Int
  | _, [] => []
  | left, q :: qs => if q ∈ left then lackL (left.erase q) qs else q :: lackL left qs
theorem lackL_count (x : Int) : ∀ (qs left : List Int), (lackL left qs).count x = qs.count x - left.count x
  | [], left => by simp [lackL]
  | q :: qs, left => by
    unfold lackL
    split
    · rename_i h
      rw [lackL_count x qs, List.count_erase, List.count_cons]
      have : 0 < left.count q := List.count_pos_iff.mpr h
      by_cases e : q = x
      · subst e; simp; omega
      · have e' : (q == x) = false := by simpa using e
        rw [e']; simp
    · rename_i h
      rw [List.count_cons, lackL_count x qs, List.count_cons]
      by_cases e : q = x
      · subst e
        have : left.count q = 0 := List.count_eq_zero.mpr h
        simp; omega
      · have e' : (q == x) = false := by simpa using e
        rw [e']; simp
theorem lackL_mem {x : Int} : ∀ {qs left : List Int}, x ∈ lackL left qs → x ∈ qs
  | [], left, h => by cases h
  | q :: qs, left, h => by
    unfold lackL at h
    split at h
    · exact List.mem_cons_of_mem _ (lackL_mem h)
    · rcases List.mem_cons.mp h with e | h
      · rw [e]; exact List.mem_cons_self
      · exact List.mem_cons_of_mem _ (lackL_mem h)
theorem lackL_len : ∀ (qs left : List Int), (lackL left qs).length ≤ qs.length
  | [], left => Nat.le_refl _
  | q :: qs, left => by
    unfold lackL
    split
    · have := lackL_len qs (left.erase q)
      rw [List.length_cons]; omega
    · have := lackL_len qs left
      rw [List.length_cons, List.length_cons]; omega
theorem lackL_lt {x : Int} : ∀ {qs left : List Int}, x ∈ left → x ∈ qs → (lackL left qs).length < qs.length
  | [], left, _, h => by cases h
  | q :: qs, left, hl, h => by
    unfold lackL
    split
    · have := lackL_len qs (left.erase q)
      rw [List.length_cons]; omega
    · rename_i hq
      have hx : x ∈ qs := by
        rcases List.mem_cons.mp h with e | h
        · subst e; exact absurd hl hq
        · exact h
      have := lackL_lt hl hx
      rw [List.length_cons, List.length_cons]; omega
theorem lackL_perm (ps qs : List Int) : (ps ++ lackL ps qs).Perm (qs ++ lackL qs ps) := by
  rw [List.perm_iff_count]
  intro x
  rw [List.count_append, List.count_append, lackL_count, lackL_count]
  omega
theorem lackL_nil : ∀ (left : List Int), lackL left [] = [] := fun _ => rfl
theorem lackL_none : ∀ (qs : List Int), lackL [] qs = qs
  | [] => rfl
  | q :: qs => by unfold lackL; rw [if_neg (by simp), lackL_none qs]
def S_lacking : Spec := fun ds P _ => ∃ ps qs : List Int, ds = [partsD ps, partsD qs] ∧ qs.length ≤ 16777216 ∧ P (.lst ((lackL ps qs).map D.int))
theorem lacking_loop {c0 c1 : Cell} {k : EndsD} : ∀ (qs left found : List Int) (c : Cell), found.length + qs.length ≤ 16777216 →
    (∀ d c, k.nx [c0, c1, .ow (.lst d), .ow (.lst ((found ++ lackL left qs).map D.int)), c]) → forN (dgN 4) b1_lacking (qs.map D.int) [c0, c1, .ow (.lst (left.map D.int)), .ow (.lst (found.map D.int)), c] k
  | [], left, found, c, _, h => by
    have h := h (left.map D.int) c
    rw [lackL_nil, List.append_nil] at h
    exact h
  | q :: qs, left, found, c, hl, h => by
    rw [List.length_cons] at hl
    rw [List.map_cons]
    unfold forN
    simp [b1_lacking]
    refine ⟨left, nums_map left, ?_⟩
    by_cases hq : q ∈ left
    · rw [if_pos hq]
      refine ⟨left, nums_map left, hq, lacking_loop qs (left.erase q) found _ (by omega) fun d c => ?_⟩
      have h := h d c
      unfold lackL at h
      rw [if_pos hq] at h
      exact h
    · rw [if_neg hq]
      have e : (found ++ [q]).map D.int = found.map D.int ++ [D.int q] := by simp
      rw [← e]
      refine ⟨by omega, lacking_loop qs left (found ++ [q]) _ (by rw [List.length_append]; simp; omega) fun d c => ?_⟩
      have h := h d c
      unfold lackL at h
      rw [if_neg hq] at h
      rw [List.append_assoc]
      exact h
theorem p_lacking : ∀ ds Q Ex, S_lacking ds Q Ex → t_lacking (startD 5 ds) (endsOf Q Ex) := by
  rintro _ Q Ex ⟨ps, qs, rfl, hl, h⟩
  simp [t_lacking]
  refine lacking_loop qs ps [] _ (by simpa using hl) fun d c => ?_
  simp
  simpa using h
/-! ### terms, parts -/
def wholeNat : D → Bool
  | .int i => decide (0 ≤ i)
  | _ => false
def isKeyD : D → Bool
  | .tup ds => decide (ds.length = 2) && ds.all wholeNat
  | _ => false
def S_is_key : Spec := fun ds P _ => ∃ d, ds = [d] ∧ known d = true ∧ (∀ l, d = .tup l → l.all known = true) ∧ P (.bl (isKeyD d))
theorem p_is_key : ∀ ds Q Ex, S_is_key ds Q Ex → t_is_key S_is_whole (startD 2 ds) (endsOf Q Ex) := by
  rintro _ Q Ex ⟨d, rfl, hk, hl, h⟩
  cases d with
  | tup l =>
    have hl := hl l rfl
    simp [t_is_key]
    by_cases h2 : l.length = 2
    · rw [if_pos (show (l.length : Int) = 2 by omega)]
      refine lcN_map (fun d => .bl (wholeNat d)) l [] _ (by simp [h2]) ?_ ?_
      · intro d hd R hR
        simp
        refine ⟨d, rfl, List.all_eq_true.mp hl d hd, ?_⟩
        cases d <;> simp [isWhole, wholeNat] at hR ⊢ <;> exact hR
      · refine ⟨l.map wholeNat, ?_, ?_⟩
        · rw [List.nil_append, ← bools_map, List.map_map]; rfl
        · simpa [isKeyD, h2, List.all_map] using h
    · rw [if_neg (show ¬ (l.length : Int) = 2 by omega)]
      simpa [isKeyD, h2] using h
  | _ => first | (simp [t_is_key]; exact h) | (simp at hk)
def areTermsD : D → Bool
  | .dT kvs => kvs.all fun q => isKeyD (.tup (q.1.map D.int)) && isWhole q.2
  | .dS kvs => kvs.isEmpty
  | _ => false
def tmIn (d : D) : Prop := known d = true ∧ (∀ kvs, d = .dT kvs → kvs.length ≤ 16777216 ∧ (kvs.map (·.1)).Nodup ∧ ∀ q ∈ kvs, known q.2 = true) ∧ ∀ kvs, d = .dS kvs → kvs.length ≤ 16777216
theorem getT_mem {t : List (List Int × D)} (nd : (t.map (·.1)).Nodup) {q : List Int × D} (h : q ∈ t) : getT t q.1 = some q.2 := by
  unfold getT
  induction t with
  | nil => cases h
  | cons x t ih =>
    rw [List.map_cons] at nd
    obtain ⟨n1, n2⟩ := List.nodup_cons.mp nd
    rw [List.find?_cons]
    rcases List.mem_cons.mp h with e | h
    · subst e; simp
    · have : ¬ x.1 = q.1 := fun z => n1 (by rw [z]; exact List.mem_map.mpr ⟨q, h, rfl⟩)
      rw [decide_eq_false this]
      exact ih n2 h
def keyVal (kvs : List (List Int × D)) : D → D
  | .tup ks => match nums ks with
    | some k => .bl (isKeyD (.tup ks) && match getT kvs k with
      | some v => isWhole v
      | none => false)
    | none => .non
  | _ => .non
theorem all_false {α : Type} (l : List α) : (l.map fun _ => false).all id = l.isEmpty := by cases l <;> rfl
def S_are_terms : Spec := fun ds P _ => ∃ d, ds = [d] ∧ tmIn d ∧ P (.bl (areTermsD d))
theorem key_two {k : List Int} (h : isKeyD (.tup (k.map D.int)) = true) : ∃ i j : Nat, k = [(i : Int), (j : Int)] := by
  match k, h with
  | [i, j], h =>
    simp [isKeyD, wholeNat] at h
    exact ⟨i.toNat, j.toNat, by rw [Int.toNat_of_nonneg h.1, Int.toNat_of_nonneg h.2]⟩
  | [], h => exact absurd h (by simp [isKeyD])
  | [_], h => exact absurd h (by simp [isKeyD])
  | _ :: _ :: _ :: _, h => exact absurd h (by simp [isKeyD])
theorem known_ints (k : List Int) : (k.map D.int).all known = true := by
  induction k with
  | nil => rfl
  | cons x k ih => rw [List.map_cons, List.all_cons, ih]; rfl
theorem p_are_terms : ∀ ds Q Ex, S_are_terms ds Q Ex → t_are_terms S_is_whole S_is_key (startD 2 ds) (endsOf Q Ex) := by
  rintro _ Q Ex ⟨d, rfl, ⟨hk, hT, hS⟩, h⟩
  cases d with
  | dT kvs =>
    obtain ⟨hl, nd, hv⟩ := hT kvs rfl
    simp [t_are_terms]
    refine lcN_map (keyVal kvs) (keyT kvs) [] _ (by simp [keyT]; exact hl) ?_ ?_
    · intro d hd R hR
      obtain ⟨q, hq, rfl⟩ := List.mem_map.mp hd
      have hg := getT_mem nd hq
      simp [keyVal, nums_map, hg] at hR
      simp
      refine ⟨_, rfl, rfl, (fun l e => by cases e; exact known_ints q.1), ?_⟩
      simp
      by_cases hb : isKeyD (.tup (q.1.map D.int)) = true
      · rw [if_pos hb]
        rw [hb] at hR
        obtain ⟨i, j, e⟩ := key_two hb
        rw [e] at hg ⊢
        simp [hg]
        exact ⟨_, rfl, hv q hq, by simpa using hR⟩
      · rw [if_neg hb]
        have hb : isKeyD (.tup (q.1.map D.int)) = false := by simpa using hb
        rw [hb] at hR
        simpa using hR
    · refine ⟨kvs.map fun q => isKeyD (.tup (q.1.map D.int)) && isWhole q.2, ?_, ?_⟩
      · rw [List.nil_append, ← bools_map]
        congr 1
        unfold keyT
        rw [List.map_map, List.map_map]
        apply List.map_congr_left
        intro q hq
        simp [keyVal, nums_map, getT_mem nd hq]
      · rw [List.all_map]
        exact h
  | dS kvs =>
    have hl := hS kvs rfl
    simp [t_are_terms]
    refine lcN_map (fun _ => .bl false) (keyS kvs) [] _ (by simp [keyS]; exact hl) ?_ ?_
    · intro d hd R hR
      obtain ⟨q, hq, rfl⟩ := List.mem_map.mp hd
      simp
      exact ⟨_, rfl, rfl, (fun l e => by cases e), hR⟩
    · refine ⟨kvs.map fun _ => false, ?_, ?_⟩
      · rw [List.nil_append, ← bools_map]
        unfold keyS
        rw [List.map_map, List.map_map]
        rfl
      · rw [all_false]
        exact h
  | _ => first | (simp [t_are_terms]; exact h) | (simp at hk)
def arePartsD : D → Bool
  | .lst l => l.all isWhole
  | .tup l => l.all isWhole
  | _ => false
def ptIn (d : D) : Prop := known d = true ∧ ∀ l, d = .lst l ∨ d = .tup l → l.length ≤ 16777216 ∧ l.all known = true
def S_are_parts : Spec := fun ds P _ => ∃ d, ds = [d] ∧ ptIn d ∧ P (.bl (arePartsD d))
theorem p_are_parts : ∀ ds Q Ex, S_are_parts ds Q Ex → t_are_parts S_is_whole (startD 2 ds) (endsOf Q Ex) := by
  rintro _ Q Ex ⟨d, rfl, ⟨hk, hl⟩, h⟩
  have go : ∀ l : List D, l.length ≤ 16777216 → l.all known = true → Q (.bl (l.all isWhole)) → ∀ c, lcN (dgN 1) dYes (dCall S_is_whole (dCons (dVar 1) dNil)) [c, .un] l [] fun acc => fAll (D.lst acc) Q := by
    intro l h1 h2 h3 c
    refine lcN_map (fun d => .bl (isWhole d)) l [] _ (by simpa using h1) (fun d hd R hR => ?_) ⟨l.map isWhole, ?_, ?_⟩
    · simp
      exact ⟨d, rfl, List.all_eq_true.mp h2 d hd, hR⟩
    · rw [List.nil_append, ← bools_map, List.map_map]; rfl
    · rw [List.all_map]; exact h3
  cases d with
  | lst l =>
    simp [t_are_parts]
    exact go l (hl l (.inl rfl)).1 (hl l (.inl rfl)).2 h _
  | tup l =>
    simp [t_are_parts]
    exact go l (hl l (.inr rfl)).1 (hl l (.inr rfl)).2 h _
  | _ => first | (simp [t_are_parts]; exact h) | (simp at hk)
end AU

/-! AuPb: plain laws: chances. -/
namespace AU
open PySem L2 PySem.Spec PyProof.Rows
/-- a chance: exponents at most d, numbers together at most 2 ^ e, at most n parts -/
structure Cha (d e n : Nat) (t : Tm) (ps : List Int) : Prop where
  raw : Raw d e t
  can : Cano t
  len : ps.length ≤ n
  sm : ∀ p ∈ ps, p.natAbs ≤ 1000
theorem Cha.mono {d e n d' e' n' : Nat} {t : Tm} {ps : List Int} (h : Cha d e n t ps) (hd : d ≤ d') (he : e ≤ e') (hn : n ≤ n') : Cha d' e' n' t ps := ⟨h.raw.mono hd he, h.can, Nat.le_trans h.len hn, h.sm⟩
theorem Raw.are {d e : Nat} {t : Tm} (h : Raw d e t) : areTermsD (termsD t) = true := by
  show ((t.map fun q => (q.1, D.int q.2)).all fun q => isKeyD (.tup (q.1.map D.int)) && isWhole q.2) = true
  rw [List.all_map, List.all_eq_true]
  intro q hq
  obtain ⟨i, j, e, _⟩ := h.ks q hq
  simp [e, isKeyD, wholeNat, isWhole]
theorem Raw.tmIn {d e : Nat} {t : Tm} (h : Raw d e t) (hd : d < 24) : tmIn (termsD t) := by
  refine ⟨rfl, fun kvs e => ?_, fun kvs e => by cases e⟩
  cases e
  have := h.len hd
  refine ⟨by simp; omega, by rw [List.map_map]; exact h.nd, fun q hq => ?_⟩
  obtain ⟨x, _, rfl⟩ := List.mem_map.mp hq
  rfl
/-- parts as they are handed in -/
def PtD (d : D) (ps : List Int) : Prop := (d = .lst (ps.map D.int) ∨ d = .tup (ps.map D.int)) ∧ ps.length ≤ 16777216
theorem PtD.are {d : D} {ps : List Int} (h : PtD d ps) : arePartsD d = true := by
  have : (ps.map D.int).all isWhole = true := by rw [List.all_map, List.all_eq_true]; intro _ _; rfl
  rcases h.1 with rfl | rfl <;> exact this
theorem PtD.ptIn {d : D} {ps : List Int} (h : PtD d ps) : ptIn d := by
  obtain ⟨h1, h2⟩ := h
  refine ⟨by rcases h1 with rfl | rfl <;> rfl, fun l hl => ?_⟩
  have : l = ps.map D.int := by rcases h1 with rfl | rfl <;> rcases hl with e | e <;> cases e <;> rfl
  rw [this]
  exact ⟨by simpa using h2, known_ints ps⟩
def S_Chance : Spec := fun ds P Ex => ∃ dt db, ds = [dt, db] ∧ tmIn dt ∧ ptIn db ∧
  if (areTermsD dt && arePartsD db) = true then ∃ (t : Tm) (ps : List Int) (d e : Nat), dt = termsD t ∧ PtD db ps ∧ Raw d e t ∧ d < 24 ∧ ∀ u qs, Raw d e u → Cano u → (∀ r b, ev u r b = ev t r b) → qs.Perm ps → qs.Pairwise (· ≤ ·) → P (.ch u qs) else Ex "BadChance"
theorem mkC_ok {t : Tm} {ps : List Int} {d e : Nat} {dt db : D} {P : D → Prop} {Ex : Str → Prop} (et : dt = termsD t) (hp : PtD db ps) (hR : Raw d e t) (hd : d < 24) (h : ∀ u qs, Raw d e u → Cano u → (∀ r b, ev u r b = ev t r b) → qs.Perm ps → P (.ch u qs)) : S_Chance [dt, db] P Ex := by
  refine ⟨dt, db, rfl, by rw [et]; exact hR.tmIn hd, hp.ptIn, ?_⟩
  rw [if_pos (by rw [et, hR.are, hp.are]; rfl)]
  exact ⟨t, ps, d, e, et, hp, hR, hd, fun u qs a b c d' _ => h u qs a b c d'⟩
/-- .. its parts rising -/
theorem mkC_srt {t : Tm} {ps : List Int} {d e : Nat} {dt db : D} {P : D → Prop} {Ex : Str → Prop} (et : dt = termsD t) (hp : PtD db ps) (hR : Raw d e t) (hd : d < 24) (h : ∀ u qs, Raw d e u → Cano u → (∀ r b, ev u r b = ev t r b) → qs.Perm ps → qs.Pairwise (· ≤ ·) → P (.ch u qs)) : S_Chance [dt, db] P Ex := by
  refine ⟨dt, db, rfl, by rw [et]; exact hR.tmIn hd, hp.ptIn, ?_⟩
  rw [if_pos (by rw [et, hR.are, hp.are]; rfl)]
  exact ⟨t, ps, d, e, et, hp, hR, hd, h⟩
theorem nums_ints {l : List D} {ns : List Int} (h : nums l = some ns) : l = ns.map D.int := nums_eq h
theorem p_init : InitOk (ti_Chance S_are_parts S_are_terms S_cleaned) (te1_Chance S_are_parts S_are_terms S_cleaned) (te2_Chance S_are_parts S_are_terms S_cleaned) S_Chance := by
  rintro x _ P Ex ⟨dt, db, rfl, ht, hb, h⟩
  refine ⟨dt, db, rfl, ?_⟩
  simp [ti_Chance, te1_Chance, te2_Chance]
  refine ⟨dt, rfl, ht, ?_⟩
  simp
  by_cases h1 : areTermsD dt = true
  · rw [if_pos h1]
    refine ⟨db, rfl, hb, ?_⟩
    simp
    by_cases h2 : arePartsD db = true
    · rw [if_pos (by rw [h1, h2]; rfl)] at h
      rw [if_pos h2]
      obtain ⟨t, ps, d, e, rfl, hp, hR, hd, h⟩ := h
      refine ⟨t, d, e, rfl, hR, hd, fun u hu hc hev => ?_⟩
      have fin : ∀ ms : List Int, ms.Perm ps → ms.Pairwise (· ≤ ·) → ∃ tp : Tm, ∃ bt : List Int, termsD u = termsD tp ∧ D.tup (ms.map D.int) = partsD bt ∧ P (.ch tp bt) := fun ms hm hs => ⟨u, ms, rfl, rfl, h u ms hu hc hev hm hs⟩
      rcases hp.1 with rfl | rfl
      · simp
        exact ⟨ps, nums_map ps, fun ms hm hs => by simpa using fin ms hm hs⟩
      · simp
        exact ⟨ps, nums_map ps, fun ms hm hs => by simpa using fin ms hm hs⟩
    · rw [if_neg h2]
      have h2 : arePartsD db = false := by simpa using h2
      rw [h2, Bool.and_false, if_neg Bool.false_ne_true] at h
      exact h
  · rw [if_neg h1]
    have h1 : areTermsD dt = false := by simpa using h1
    rw [h1, Bool.false_and, if_neg Bool.false_ne_true] at h
    exact h
/-! ### terms, parts, at -/
def S_cterms : Spec := fun ds P _ => ∃ (u : Tm) (ps : List Int) (d e : Nat), ds = [.ch u ps] ∧ Raw d e u ∧ d < 24 ∧ P (termsD u)
theorem p_cterms : ∀ ds Q Ex, S_cterms ds Q Ex → t_Chance_terms (startD 1 ds) (endsOf Q Ex) := by
  rintro _ Q Ex ⟨u, ps, d, e, rfl, hR, hd, h⟩
  simp [t_Chance_terms]
  exact ⟨hR.small hd, h⟩
def S_cparts : Spec := fun ds P _ => ∃ (u : Tm) (ps : List Int), ds = [.ch u ps] ∧ P (partsD ps)
theorem p_cparts : ∀ ds Q Ex, S_cparts ds Q Ex → t_Chance_parts (startD 1 ds) (endsOf Q Ex) := by
  rintro _ Q Ex ⟨u, ps, rfl, h⟩
  simp [t_Chance_parts]
  exact h
theorem ev_bd {t : Tm} {d e : Nat} {r b : Int} (h : Raw d e t) (hr : bd 64 r) (hb : bd 64 b) : bd (e + 128 * d + 2) (ev t r b) := by
  have key : ∀ t : Tm, (∀ q ∈ t, keyOk d q.1) → (ev t r b).natAbs ≤ nrm t * 2 ^ (128 * d) := by
    intro t
    induction t with
    | nil => intro _; simp [ev, nrm]
    | cons q t ih =>
      intro hk
      have ih := ih fun x hx => hk x (List.mem_cons_of_mem _ hx)
      obtain ⟨i, j, e1, hi, hj⟩ := hk q List.mem_cons_self
      have hm : (mono q.1 r b).natAbs ≤ 2 ^ (128 * d) := by
        rw [e1]
        show (r ^ i * b ^ j).natAbs ≤ _
        rw [Int.natAbs_mul, show 128 * d = 64 * d + 64 * d by omega, Nat.pow_add]
        exact Nat.mul_le_mul (Nat.le_trans (bd_pow hr i) (Nat.pow_le_pow_right (by decide) (by omega))) (Nat.le_trans (bd_pow hb j) (Nat.pow_le_pow_right (by decide) (by omega)))
      have h2 : (q.2 * mono q.1 r b).natAbs ≤ q.2.natAbs * 2 ^ (128 * d) := by
        rw [Int.natAbs_mul]
        exact Nat.mul_le_mul_left _ hm
      simp only [ev, nrm, Nat.add_mul]
      omega
  have h1 := key t h.ks
  have h2 := Nat.mul_le_mul_right (2 ^ (128 * d)) h.nm
  have h3 : 0 < 2 ^ (e + 128 * d) := pow2_pos _
  unfold bd
  rw [← Nat.pow_add] at h2
  rw [show e + 128 * d + 2 = (e + 128 * d) + 2 from rfl, Nat.pow_add 2 (e + 128 * d) 2]
  omega
theorem prod_bd {r b : Int} (hr : bd 62 r) (hb : bd 62 b) : ∀ {ps : List Int}, (∀ p ∈ ps, p.natAbs ≤ 1000) → bd (64 * ps.length + 1) (prodP ps r b)
  | [], _ => by simp [prodP, bd]
  | p :: ps, h => by
    have ih := prod_bd hr hb (ps := ps) fun x hx => h x (List.mem_cons_of_mem _ hx)
    have hp := h p List.mem_cons_self
    unfold bd at *
    simp only [prodP, List.length_cons, Int.natAbs_mul]
    have : (r + b + p).natAbs < 2 ^ 64 := by omega
    rw [show 64 * (ps.length + 1) + 1 = 64 + (64 * ps.length + 1) by omega, Nat.pow_add 2 64]
    exact Nat.mul_lt_mul'' this ih
def S_at : Spec := fun ds P Ex => ∃ (t : Tm) (ps : List Int) (r b : Int) (d e n : Nat), ds = [.ch t ps, .int r, .int b] ∧ Cha d e n t ps ∧ d < 24 ∧ e ≤ 3000 ∧ n ≤ 64 ∧ bd 62 r ∧ bd 62 b ∧
  (prodP ps r b ≠ 0 → P (fr (Rat.divInt (ev t r b) (prodP ps r b)))) ∧ (prodP ps r b = 0 → Ex "NoValue")
theorem bd_sum3 {r b p : Int} (hr : bd 62 r) (hb : bd 62 b) (hp : p.natAbs ≤ 1000) : bd 64 (r + b + p) := by
  unfold bd at *
  omega
theorem at_body {S S' : Spec} {c0 : Cell} {r b x p : Int} {k : EndsD} : b1_Chance_at S S' [c0, .fz (.int r), .fz (.int b), .fz (.int x), .fz (.int p)] k ↔ IntMulOk x (r + b + p) ∧ k.nx [c0, .fz (.int r), .fz (.int b), .fz (.int (x * (r + b + p))), .fz (.int p)] := Iff.rfl
theorem at_loop {S S' : Spec} {c0 : Cell} {r b : Int} {k : EndsD} (hr : bd 62 r) (hb : bd 62 b) (ps : List Int) : ∀ (x : Int) (n : Nat) (c : Cell), (∀ p ∈ ps, p.natAbs ≤ 1000) → bd n x → n + 64 * ps.length ≤ 8000 →
    (∀ c, k.nx [c0, .fz (.int r), .fz (.int b), .fz (.int (x * prodP ps r b)), c]) → forN (dgN 4) (b1_Chance_at S S') (ps.map D.int) [c0, .fz (.int r), .fz (.int b), .fz (.int x), c] k := by
  induction ps with
  | nil =>
    intro x n c _ _ _ h
    have h := h c
    simp only [prodP, Int.mul_one] at h
    exact h
  | cons p ps ih =>
    intro x n c hs hx hn h
    rw [List.length_cons] at hn
    have hy := bd_sum3 hr hb (hs p List.mem_cons_self)
    have hok := hx.ok hy (by omega)
    rw [List.map_cons]
    unfold forN
    show b1_Chance_at S S' [c0, .fz (.int r), .fz (.int b), .fz (.int x), .fz (.int p)] _
    rw [at_body]
    refine ⟨hok, ?_⟩
    refine ih (x * (r + b + p)) (n + 64) _ (fun q hq => hs q (List.mem_cons_of_mem _ hq)) (hx.mul hy) (by omega) fun c => ?_
    have h := h c
    simp only [prodP] at h
    rw [Int.mul_assoc]
    exact h
theorem p_at : ∀ ds Q Ex, S_at ds Q Ex → t_Chance_at S_lowest S_value_of (startD 5 ds) (endsOf Q Ex) := by
  rintro _ Q Ex ⟨t, ps, r, b, d, e, n, rfl, hc, hd, he, hn, hr, hb, h1, h2⟩
  have hl := hc.len
  have hr' : bd 64 r := hr.mono (by decide)
  have hb' : bd 64 b := hb.mono (by decide)
  simp [t_Chance_at]
  refine at_loop (S := S_lowest) (S' := S_value_of) hr hb ps 1 1 _ hc.sm (by unfold bd; decide) (by omega) fun c => ?_
  rw [Int.one_mul]
  simp
  by_cases hz : prodP ps r b = 0
  · rw [if_pos hz]
    exact h2 hz
  · rw [if_neg hz]
    refine ⟨t, r, b, d, e, rfl, hc.raw, hd, he, hr', hb', ?_⟩
    simp
    exact ⟨_, _, rfl, hz, (ev_bd hc.raw hr' hb').mono (by omega), (prod_bd hr hb hc.sm).mono (by omega), h1 hz⟩
end AU

/-! AuPc: plain mathematics: a form that is nought at many points has no terms. -/
namespace AU
open PySem L2 PySem.Spec PyProof.Rows
/-- the value of a form of one number, its factors c 0, c 1, .. -/
def P1 : Nat → (Nat → Int) → Int → Int
  | 0, _, _ => 0
  | n + 1, c, x => c 0 + x * P1 n (fun i => c (i + 1)) x
theorem P1_congr : ∀ {n : Nat} {c c' : Nat → Int} {x : Int}, (∀ i, i < n → c i = c' i) → P1 n c x = P1 n c' x
  | 0, _, _, _, _ => rfl
  | n + 1, c, c', x, h => by
    unfold P1
    rw [h 0 (by omega), P1_congr fun i hi => h (i + 1) (by omega)]
theorem P1_add : ∀ (n : Nat) (c c' : Nat → Int) (x : Int), P1 n (fun i => c i + c' i) x = P1 n c x + P1 n c' x
  | 0, _, _, _ => rfl
  | n + 1, c, c', x => by
    unfold P1
    rw [P1_add n]
    grind
theorem P1_sub : ∀ (n : Nat) (c c' : Nat → Int) (x : Int), P1 n (fun i => c i - c' i) x = P1 n c x - P1 n c' x
  | 0, _, _, _ => rfl
  | n + 1, c, c', x => by
    unfold P1
    rw [P1_sub n]
    grind
theorem P1_zero : ∀ (n : Nat) (x : Int), P1 n (fun _ => 0) x = 0
  | 0, _ => rfl
  | n + 1, x => by
    unfold P1
    rw [P1_zero n]
    simp
theorem P1_one : ∀ (n i0 : Nat) (v x : Int), i0 < n → P1 n (fun i => if i = i0 then v else 0) x = v * x ^ i0
  | 0, _, _, _, h => absurd h (Nat.not_lt_zero _)
  | n + 1, 0, v, x, _ => by
    unfold P1
    have : (fun i => if i + 1 = 0 then v else 0 : Nat → Int) = fun _ => 0 := by funext i; simp
    rw [this, P1_zero]
    simp
  | n + 1, i0 + 1, v, x, h => by
    unfold P1
    have : (fun i => if i + 1 = i0 + 1 then v else 0 : Nat → Int) = fun i => if i = i0 then v else 0 := by funext i; simp
    rw [this, P1_one n i0 v x (by omega), Int.pow_succ]
    simp
    grind
/-- divided by x - a: the factors of what comes out -/
def divC (a : Int) : Nat → (Nat → Int) → Nat → Int
  | 0, _, _ => 0
  | n + 1, c, 0 => P1 (n + 1) (fun i => c (i + 1)) a
  | n + 1, c, i + 1 => divC a n (fun i => c (i + 1)) i
theorem div_eq (a x : Int) : ∀ (n : Nat) (c : Nat → Int), P1 (n + 1) c x - P1 (n + 1) c a = (x - a) * P1 n (divC a n c) x
  | 0, c => by simp [P1]
  | n + 1, c => by
    have ih := div_eq a x n fun i => c (i + 1)
    have e : P1 (n + 1) (divC a (n + 1) c) x = P1 (n + 1) (fun i => c (i + 1)) a + x * P1 n (divC a n fun i => c (i + 1)) x := rfl
    rw [e]
    have e1 : P1 (n + 1 + 1) c x = c 0 + x * P1 (n + 1) (fun i => c (i + 1)) x := rfl
    have e2 : P1 (n + 1 + 1) c a = c 0 + a * P1 (n + 1) (fun i => c (i + 1)) a := rfl
    rw [e1, e2]
    grind
/-- back from the divided form to the factors -/
theorem div_zero (a : Int) : ∀ (n : Nat) (c : Nat → Int), (∀ i, i < n → divC a n c i = 0) → ∀ i, i < n → c (i + 1) = 0
  | 0, _, _, i, h => absurd h (Nat.not_lt_zero _)
  | n + 1, c, h, i, hi => by
    have ih := div_zero a n (fun i => c (i + 1)) fun i hi => h (i + 1) (by omega)
    cases i with
    | succ i => exact ih i (by omega)
    | zero =>
      have h0 := h 0 (by omega)
      have e : divC a (n + 1) c 0 = c 1 + a * P1 n (fun i => c (i + 1 + 1)) a := rfl
      rw [e, P1_congr (c' := fun _ => 0) (fun i hi => ih i hi), P1_zero] at h0
      simpa using h0
theorem P1_nought : ∀ (n : Nat) (c : Nat → Int) (xs : List Int), xs.Nodup → xs.length = n → (∀ x ∈ xs, P1 n c x = 0) → ∀ i, i < n → c i = 0
  | 0, _, _, _, _, _, i, h => absurd h (Nat.not_lt_zero _)
  | n + 1, c, [], _, hl, _, i, hi => by cases hl
  | n + 1, c, a :: xs, nd, hl, hz, i, hi => by
    obtain ⟨n1, n2⟩ := List.nodup_cons.mp nd
    have hl : xs.length = n := by simpa using hl
    have ha := hz a List.mem_cons_self
    have q := P1_nought n (divC a n c) xs n2 hl fun x hx => by
      have e := div_eq a x n c
      rw [ha, hz x (List.mem_cons_of_mem _ hx)] at e
      have : x - a ≠ 0 := fun z => n1 (by rw [← show x = a by omega]; exact hx)
      have e : (x - a) * P1 n (divC a n c) x = 0 := by rw [← e]; rfl
      exact (Int.mul_eq_zero.mp e).resolve_left this
    have q1 := div_zero a n c q
    cases i with
    | succ i => exact q1 i (by omega)
    | zero =>
      have e : P1 (n + 1) c a = c 0 + a * P1 n (fun i => c (i + 1)) a := rfl
      rw [e, P1_congr (c' := fun _ => 0) (fun i hi => q1 i hi), P1_zero] at ha
      simpa using ha
/-! ### forms of two numbers -/
def coef : Tm → Nat → Nat → Int
  | [], _, _ => 0
  | q :: t, i, j => (if q.1 = [(i : Int), (j : Int)] then q.2 else 0) + coef t i j
theorem ev_coef {d : Nat} (r b : Int) : ∀ {t : Tm}, (∀ q ∈ t, keyOk d q.1) → ev t r b = P1 (d + 1) (fun i => P1 (d + 1) (fun j => coef t i j) b) r
  | [], _ => by
    simp only [ev, coef]
    have : (fun _ : Nat => P1 (d + 1) (fun _ => 0) b) = fun _ => 0 := by funext i; exact P1_zero _ _
    rw [this, P1_zero]
  | q :: t, h => by
    have ih := ev_coef r b (t := t) fun x hx => h x (List.mem_cons_of_mem _ hx)
    obtain ⟨i0, j0, e, hi, hj⟩ := h q List.mem_cons_self
    simp only [ev, coef, ih]
    have e1 : (fun i : Nat => P1 (d + 1) (fun j => (if q.1 = [(i : Int), (j : Int)] then q.2 else 0) + coef t i j) b) = fun i => (if i = i0 then q.2 * b ^ j0 else 0) + P1 (d + 1) (fun j => coef t i j) b := by
      funext i
      rw [P1_add]
      congr 1
      by_cases hi : i = i0
      · subst hi
        rw [if_pos rfl, ← P1_one (d + 1) j0 q.2 b (by omega)]
        apply P1_congr
        intro j _
        rw [e]
        by_cases hj : j = j0
        · subst hj; simp
        · rw [if_neg hj, if_neg]
          intro z
          injection z with _ z
          injection z with z _
          omega
      · rw [if_neg hi]
        have : (fun j : Nat => (if q.1 = [(i : Int), (j : Int)] then q.2 else 0)) = fun _ => 0 := by
          funext j
          rw [if_neg]
          rw [e]
          intro z
          injection z with z _
          omega
        rw [this, P1_zero]
    rw [e1, P1_add, P1_one _ _ _ _ (by omega), e]
    show q.2 * (r ^ i0 * b ^ j0) + _ = _
    grind
theorem coef_look {t : Tm} (nd : (t.map (·.1)).Nodup) (i j : Nat) : coef t i j = (lookI t [(i : Int), (j : Int)]).getD 0 := by
  induction t with
  | nil => rfl
  | cons q t ih =>
    rw [List.map_cons] at nd
    obtain ⟨n1, n2⟩ := List.nodup_cons.mp nd
    have ih := ih n2
    unfold coef
    by_cases h : q.1 = [(i : Int), (j : Int)]
    · have l : lookI (q :: t) [(i : Int), (j : Int)] = some q.2 := by unfold lookI; rw [List.find?_cons, decide_eq_true h]; rfl
      rw [if_pos h, l, ih, lookI_none.mpr (by rw [← h]; exact n1)]
      simp
    · have l : lookI (q :: t) [(i : Int), (j : Int)] = lookI t [(i : Int), (j : Int)] := by unfold lookI; rw [List.find?_cons, decide_eq_false h]
      rw [if_neg h, l, ih]
      simp
/-- two canonical forms that agree at enough points are one -/
theorem forms_eq {d e e' : Nat} {u v : Tm} (hu : Raw d e u) (cu : Cano u) (hv : Raw d e' v) (cv : Cano v) (rs bs : List Int) (nr : rs.Nodup) (nb : bs.Nodup) (lr : rs.length = d + 1) (lb : bs.length = d + 1)
    (h : ∀ r ∈ rs, ∀ b ∈ bs, ev u r b = ev v r b) : u = v := by
  have key : ∀ i, i < d + 1 → ∀ j, j < d + 1 → coef u i j = coef v i j := by
    have h1 : ∀ b ∈ bs, ∀ i, i < d + 1 → P1 (d + 1) (fun j => coef u i j - coef v i j) b = 0 := by
      intro b hb
      have := P1_nought (d + 1) (fun i => P1 (d + 1) (fun j => coef u i j - coef v i j) b) rs nr lr fun r hr => by
        have e := h r hr b hb
        rw [ev_coef r b hu.ks, ev_coef r b hv.ks] at e
        have e2 : (fun i => P1 (d + 1) (fun j => coef u i j - coef v i j) b) = fun i => P1 (d + 1) (fun j => coef u i j) b - P1 (d + 1) (fun j => coef v i j) b := by funext i; exact P1_sub _ _ _ _
        rw [e2, P1_sub]
        omega
      exact this
    intro i hi j hj
    have := P1_nought (d + 1) (fun j => coef u i j - coef v i j) bs nb lb (fun b hb => h1 b hb i hi) j hj
    omega
  refine cu.ext cv fun q => ?_
  have go : ∀ {s t : Tm} {e e' : Nat}, Raw d e s → Cano s → Raw d e' t → (∀ i, i < d + 1 → ∀ j, j < d + 1 → coef s i j = coef t i j) → ∀ q ∈ s, q ∈ t := by
    intro s t e e' hs cs ht hk q hq
    obtain ⟨i, j, eq, hi, hj⟩ := hs.ks q hq
    have l1 := lookI_mem hs.nd hq
    have k := hk i (by omega) j (by omega)
    rw [coef_look hs.nd, coef_look ht.nd, ← eq, l1] at k
    have nz := cs.nz q hq
    cases l2 : lookI t q.1 with
    | none => rw [l2] at k; exact absurd k nz
    | some v =>
      rw [l2] at k
      have k : q.2 = v := k
      rw [← k] at l2
      exact lookI_some l2
  exact ⟨go hu cu hv key q, go hv cv hu (fun i hi j hj => (key i hi j hj).symm) q⟩
end AU

/-! AuPd: plain laws: chances reckoned with. -/
namespace AU
open PySem L2 PySem.Spec PyProof.Rows
theorem len_sub {α : Type} [DecidableEq α] : ∀ {u v : List α}, u.Nodup → u ⊆ v → u.length ≤ v.length
  | [], _, _, _ => Nat.zero_le _
  | x :: u, v, nd, h => by
    obtain ⟨n1, n2⟩ := List.nodup_cons.mp nd
    have hx : x ∈ v := h List.mem_cons_self
    have := len_sub (u := u) (v := v.erase x) n2 fun y hy => (List.mem_erase_of_ne (fun e => n1 (by rw [← e]; exact hy))).mpr (h (List.mem_cons_of_mem _ hy))
    rw [List.length_erase_of_mem hx] at this
    have := List.length_pos_of_mem hx
    rw [List.length_cons]
    omega
theorem eqI_iff {u v : Tm} (cu : Cano u) (cv : Cano v) : eqI u v = decide (u = v) := by
  by_cases h : u = v
  · subst h
    rw [decide_eq_true rfl]
    simp [eqI]
    intro k x hx
    exact lookI_mem (q := (k, x)) cu.nd hx
  · rw [decide_eq_false h]
    cases e : eqI u v with
    | false => rfl
    | true =>
      exfalso
      simp [eqI] at e
      obtain ⟨hl, hm⟩ := e
      have n1 : u.Nodup := List.Pairwise.of_map (·.1) (fun _ _ hne e => hne (congrArg _ e)) cu.nd
      have n2 : v.Nodup := List.Pairwise.of_map (·.1) (fun _ _ hne e => hne (congrArg _ e)) cv.nd
      have sub : u ⊆ v := fun q hq => lookI_some (hm q.1 q.2 hq)
      refine h (cu.ext cv fun q => ⟨fun z => sub z, fun hq => Decidable.byContradiction fun hn => ?_⟩)
      have := len_sub (u := q :: u) (v := v) (List.nodup_cons.mpr ⟨hn, n1⟩) fun y hy => by
        rcases List.mem_cons.mp hy with e | hy
        · rw [e]; exact hq
        · exact sub hy
      rw [List.length_cons] at this
      omega
/-! ### a whole number as a chance -/
def oneT (n : Int) : Tm := [([0, 0], n)]
theorem oneT_raw {n : Int} {e : Nat} (h : n.natAbs ≤ 2 ^ e) : Raw 0 e (oneT n) := by
  refine ⟨by simp [oneT], fun q hq => ?_, by simpa [oneT, nrm] using h⟩
  simp [oneT] at hq
  subst hq
  exact ⟨0, 0, rfl, by omega, by omega⟩
theorem oneT_ev (n r b : Int) : ev (oneT n) r b = n := by simp [oneT, ev, mono]
theorem merge_one (n : D) : mergeT [([0, 0], n)] = [([0, 0], n)] := rfl
theorem pt_nil : PtD (.tup []) [] := ⟨.inr rfl, Nat.zero_le _⟩
def S_chance_of : Spec := fun ds P Ex => ∃ d, ds = [d] ∧ ((∃ t ps, d = .ch t ps ∧ P d) ∨ ∃ n e, d = .int n ∧ n.natAbs ≤ 2 ^ e ∧ ∀ u, Raw 0 e u → Cano u → (∀ r b, ev u r b = n) → P (.ch u []))
theorem p_chance_of : ∀ ds Q Ex, S_chance_of ds Q Ex → t_chance_of S_Chance (startD 1 ds) (endsOf Q Ex) := by
  rintro _ Q Ex ⟨d, rfl, h⟩
  rcases h with ⟨t, ps, rfl, h⟩ | ⟨n, e, rfl, hn, h⟩
  · simp [t_chance_of]
    exact h
  · simp [t_chance_of]
    refine mkC_ok (t := oneT n) (d := 0) rfl pt_nil (oneT_raw hn) (by omega) fun u qs hu hc hev hp => ?_
    have : qs = [] := hp.eq_nil
    subst this
    exact h u hu hc fun r b => by rw [hev, oneT_ev]
def S_nothing : Spec := fun ds P _ => ds = [] ∧ P (.ch [] [])
theorem ev_zero {u : Tm} {d e : Nat} (hu : Raw d e u) (cu : Cano u) (h : ∀ r b, ev u r b = 0) : u = [] := by
  have n := nil_form d e
  refine forms_eq hu cu n.1 n.2 ((List.range (d + 1)).map fun x : Nat => (x : Int)) ((List.range (d + 1)).map fun x : Nat => (x : Int)) ?_ ?_ (by simp) (by simp) (fun r _ b _ => h r b)
  all_goals
    unfold List.Nodup
    rw [List.pairwise_map]
    exact List.Pairwise.imp (fun hne e => hne (Int.ofNat.inj e)) List.nodup_range
theorem p_nothing : ∀ ds Q Ex, S_nothing ds Q Ex → t_nothing S_Chance (startD 0 ds) (endsOf Q Ex) := by
  rintro _ Q Ex ⟨rfl, h⟩
  simp [t_nothing]
  refine mkC_ok (t := []) (d := 0) (e := 0) rfl pt_nil (nil_form 0 0).1 (by omega) fun u qs hu hc hev hp => ?_
  have e1 := ev_zero hu hc hev
  have : qs = [] := hp.eq_nil
  subst this e1
  exact h
/-! ### sums -/
def S_summed : Spec := fun ds P _ => ∃ (t o : Tm) (ps qs : List Int) (s : Int) (d1 e1 n1 d2 e2 n2 d e : Nat), ds = [.ch t ps, .ch o qs, .int s] ∧ Cha d1 e1 n1 t ps ∧ Cha d2 e2 n2 o qs ∧ (s = 1 ∨ s = -1) ∧
  n1 ≤ 1000 ∧ n2 ≤ 1000 ∧ d1 + (lackL ps qs).length ≤ d ∧ d2 + (lackL qs ps).length ≤ d ∧ e1 + 10 * (lackL ps qs).length ≤ e ∧ e2 + 10 * (lackL qs ps).length ≤ e ∧ d < 24 ∧ e < 3000 ∧
  ∀ u rs, Raw d (e + 1) u → Cano u → rs.Perm (ps ++ lackL ps qs) → (∀ r b, ev u r b = ev t r b * prodP (lackL ps qs) r b + s * (ev o r b * prodP (lackL qs ps) r b)) → P (.ch u rs)
theorem p_summed : ∀ ds Q Ex, S_summed ds Q Ex → t_summed S_Chance S_lacking S_added S_with_parts (startD 6 ds) (endsOf Q Ex) := by
  rintro _ Q Ex ⟨t, o, ps, qs, s, d1, e1, n1, d2, e2, n2, d, e, rfl, ht, ho, hs, b1, b2, b3, b4, b5, b6, hd, he, h⟩
  have l1 := ht.len
  have l2 := ho.len
  have m1 := lackL_len qs ps
  have m2 := lackL_len ps qs
  simp [t_summed]
  refine ⟨ps, qs, rfl, by omega, ?_⟩
  simp
  refine ⟨qs, ps, rfl, by omega, ?_⟩
  simp
  refine ⟨t, _, lackL ps qs, d1, e1, rfl, .inl rfl, ht.raw, ht.can, fun p hp => ho.sm p (lackL_mem hp), by omega, by omega, fun u hu cu eu => ?_⟩
  simp
  refine ⟨o, _, lackL qs ps, d2, e2, rfl, .inl rfl, ho.raw, ho.can, fun p hp => ht.sm p (lackL_mem hp), by omega, by omega, fun v hv cv ev' => ?_⟩
  simp
  refine ⟨u, v, s, d, e, rfl, hu.mono b3 b5, hv.mono b4 b6, hs, hd, by omega, fun w hw cw ew => ?_⟩
  simp
  refine ⟨by omega, ?_⟩
  refine mkC_ok (t := w) (ps := ps ++ lackL ps qs) rfl ⟨.inl (congrArg D.lst List.map_append.symm), by rw [List.length_append]; omega⟩ hw hd fun x rs hx cx ex hr => h x rs hx cx hr fun r b => by rw [ex, ew, eu, ev']
def S_product : Spec := fun ds P _ => ∃ (t o : Tm) (ps qs : List Int) (d1 e1 n1 d2 e2 n2 : Nat), ds = [.ch t ps, .ch o qs] ∧ Cha d1 e1 n1 t ps ∧ Cha d2 e2 n2 o qs ∧ n1 ≤ 1000 ∧ n2 ≤ 1000 ∧ d1 + d2 < 24 ∧ e1 + e2 ≤ 3000 ∧
  ∀ u rs, Raw (d1 + d2) (e1 + e2) u → Cano u → rs.Perm (ps ++ qs) → (∀ r b, ev u r b = ev t r b * ev o r b) → P (.ch u rs)
theorem p_product : ∀ ds Q Ex, S_product ds Q Ex → t_product S_Chance S_multiplied (startD 2 ds) (endsOf Q Ex) := by
  rintro _ Q Ex ⟨t, o, ps, qs, d1, e1, n1, d2, e2, n2, rfl, ht, ho, b1, b2, hd, he, h⟩
  have l1 := ht.len
  have l2 := ho.len
  simp [t_product]
  refine ⟨t, o, d1, e1, d2, e2, rfl, ht.raw, ho.raw, hd, he, fun u hu cu eu => ?_⟩
  simp
  refine ⟨by omega, ?_⟩
  exact mkC_ok (t := u) (ps := ps ++ qs) rfl ⟨.inr (congrArg D.tup List.map_append.symm), by rw [List.length_append]; omega⟩ hu hd fun x rs hx cx ex hr => h x rs hx cx hr fun r b => by rw [ex, eu]
def S_are_same : Spec := fun ds P _ => ∃ (t o : Tm) (ps qs : List Int) (d1 e1 n1 d2 e2 n2 d e : Nat), ds = [.ch t ps, .ch o qs] ∧ Cha d1 e1 n1 t ps ∧ Cha d2 e2 n2 o qs ∧
  n1 ≤ 1000 ∧ n2 ≤ 1000 ∧ d1 + (lackL ps qs).length ≤ d ∧ d2 + (lackL qs ps).length ≤ d ∧ e1 + 10 * (lackL ps qs).length ≤ e ∧ e2 + 10 * (lackL qs ps).length ≤ e ∧ d < 24 ∧ e < 3000 ∧
  ∀ u v, Raw d e u → Cano u → Raw d e v → Cano v → (∀ r b, ev u r b = ev t r b * prodP (lackL ps qs) r b) → (∀ r b, ev v r b = ev o r b * prodP (lackL qs ps) r b) → P (.bl (decide (u = v)))
theorem asI_dI : ∀ t : Tm, asI (t.map fun q => (q.1, D.int q.2)) = some t
  | [] => rfl
  | q :: t => by
    show (asI (t.map fun q => (q.1, D.int q.2))).map _ = _
    rw [asI_dI t]
    rfl
theorem p_are_same : ∀ ds Q Ex, S_are_same ds Q Ex → t_are_same S_lacking S_with_parts (startD 4 ds) (endsOf Q Ex) := by
  rintro _ Q Ex ⟨t, o, ps, qs, d1, e1, n1, d2, e2, n2, d, e, rfl, ht, ho, b1, b2, b3, b4, b5, b6, hd, he, h⟩
  have l1 := ht.len
  have l2 := ho.len
  have m1 := lackL_len qs ps
  have m2 := lackL_len ps qs
  simp [t_are_same]
  refine ⟨ps, qs, rfl, by omega, ?_⟩
  simp
  refine ⟨qs, ps, rfl, by omega, ?_⟩
  simp
  refine ⟨t, _, lackL ps qs, d1, e1, rfl, .inl rfl, ht.raw, ht.can, fun p hp => ho.sm p (lackL_mem hp), by omega, by omega, fun u hu cu eu => ?_⟩
  simp
  refine ⟨o, _, lackL qs ps, d2, e2, rfl, .inl rfl, ho.raw, ho.can, fun p hp => ht.sm p (lackL_mem hp), by omega, by omega, fun v hv cv ev' => ?_⟩
  simp
  rw [eqI_iff cu cv]
  exact h u v (hu.mono b3 b5) cu (hv.mono b4 b6) cv eu ev'
/-! ### the operators -/
def S_add : Spec := fun ds P Ex => ∃ a b, ds = [a, b] ∧ S_chance_of [b] (fun y => S_summed [a, y, .int 1] P Ex) Ex
theorem p_add : ∀ ds Q Ex, S_add ds Q Ex → t_Chance___add__ S_summed S_chance_of (startD 2 ds) (endsOf Q Ex) := by
  rintro _ Q Ex ⟨a, b, rfl, h⟩
  simpa [t_Chance___add__] using h
def S_sub : Spec := fun ds P Ex => ∃ a b, ds = [a, b] ∧ S_chance_of [b] (fun y => S_summed [a, y, .int (-1)] P Ex) Ex
theorem p_sub : ∀ ds Q Ex, S_sub ds Q Ex → t_Chance___sub__ S_summed S_chance_of (startD 2 ds) (endsOf Q Ex) := by
  rintro _ Q Ex ⟨a, b, rfl, h⟩
  simpa [t_Chance___sub__] using h
def S_mul : Spec := fun ds P Ex => ∃ a b, ds = [a, b] ∧ S_chance_of [b] (fun y => S_product [a, y] P Ex) Ex
theorem p_mul : ∀ ds Q Ex, S_mul ds Q Ex → t_Chance___mul__ S_product S_chance_of (startD 2 ds) (endsOf Q Ex) := by
  rintro _ Q Ex ⟨a, b, rfl, h⟩
  simpa [t_Chance___mul__] using h
def S_radd : Spec := fun ds P Ex => ∃ a b, ds = [a, b] ∧ S_chance_of [b] (fun y => S_summed [y, a, .int 1] P Ex) Ex
theorem p_radd : ∀ ds Q Ex, S_radd ds Q Ex → t_Chance___radd__ S_summed S_chance_of (startD 2 ds) (endsOf Q Ex) := by
  rintro _ Q Ex ⟨a, b, rfl, h⟩
  simpa [t_Chance___radd__] using h
def S_rsub : Spec := fun ds P Ex => ∃ a b, ds = [a, b] ∧ S_chance_of [b] (fun y => S_summed [y, a, .int (-1)] P Ex) Ex
theorem p_rsub : ∀ ds Q Ex, S_rsub ds Q Ex → t_Chance___rsub__ S_summed S_chance_of (startD 2 ds) (endsOf Q Ex) := by
  rintro _ Q Ex ⟨a, b, rfl, h⟩
  simpa [t_Chance___rsub__] using h
def S_rmul : Spec := fun ds P Ex => ∃ a b, ds = [a, b] ∧ S_chance_of [b] (fun y => S_product [y, a] P Ex) Ex
theorem p_rmul : ∀ ds Q Ex, S_rmul ds Q Ex → t_Chance___rmul__ S_product S_chance_of (startD 2 ds) (endsOf Q Ex) := by
  rintro _ Q Ex ⟨a, b, rfl, h⟩
  simpa [t_Chance___rmul__] using h
theorem add_ok {t o : Tm} {ps qs : List Int} {P : D → Prop} {Ex : Str → Prop} (h : S_summed [.ch t ps, .ch o qs, .int 1] P Ex) : S_add [.ch t ps, .ch o qs] P Ex := ⟨_, _, rfl, _, rfl, .inl ⟨o, qs, rfl, h⟩⟩
theorem mul_ok {t o : Tm} {ps qs : List Int} {P : D → Prop} {Ex : Str → Prop} (h : S_product [.ch t ps, .ch o qs] P Ex) : S_mul [.ch t ps, .ch o qs] P Ex := ⟨_, _, rfl, _, rfl, .inl ⟨o, qs, rfl, h⟩⟩
/-- == of a chance with anything -/
def S_eq : Spec := fun ds P Ex => ∃ a b, ds = [a, b] ∧ (isCh b = true ∧ S_are_same [a, b] P Ex ∨ isCh b = false ∧ known b = true ∧ P (.bl false))
end AU

/-! AuPe: plain laws: what stands behind a draw, how many balls are needed. -/
namespace AU
open PySem L2 PySem.Spec PyProof.Rows
/-! ### numbers behind a draw -/
def stp (w : Str) : Int := if w = "aside" then -1 else if w = "more" then 1 else 0
def xtr (w : Str) : Int := if w = "other" then 1 else 0
theorem way_cases {w : Str} (h : wayB w = true) : w = "back" ∨ w = "aside" ∨ w = "more" ∨ w = "other" := by
  unfold wayB at h
  simpa only [Bool.or_eq_true, decide_eq_true_eq] using h
theorem sx_bd (w : Str) : -1 ≤ stp w + xtr w ∧ stp w + xtr w ≤ 1 ∧ -1 ≤ stp w ∧ stp w ≤ 1 ∧ 0 ≤ xtr w ∧ xtr w ≤ 1 := by
  unfold stp xtr
  by_cases h1 : w = "aside"
  · subst h1; decide +kernel
  · rw [if_neg h1]
    by_cases h2 : w = "more"
    · subst h2; decide +kernel
    · rw [if_neg h2]
      split <;> omega
def S_turned : Spec := fun ds P _ => ∃ (w c : Str) (r b : Int), ds = [.str w, .str c, .int r, .int b] ∧ wayB w = true ∧ P (if c = "red" then .tup [.int (r + stp w), .int (b + xtr w)] else .tup [.int (r + xtr w), .int (b + stp w)])
theorem way_neq : (("aside" : Str) = "back") = False ∧ (("more" : Str) = "back") = False ∧ (("other" : Str) = "back") = False ∧ (("back" : Str) = "aside") = False ∧ (("more" : Str) = "aside") = False ∧ (("other" : Str) = "aside") = False ∧ (("back" : Str) = "more") = False ∧ (("aside" : Str) = "more") = False ∧ (("other" : Str) = "more") = False ∧ (("back" : Str) = "other") = False ∧ (("aside" : Str) = "other") = False ∧ (("more" : Str) = "other") = False := by
  simp only [eq_iff_iff, iff_false]
  decide +kernel
theorem p_turned : ∀ ds Q Ex, S_turned ds Q Ex → t_turned (startD 6 ds) (endsOf Q Ex) := by
  rintro _ Q Ex ⟨w, c, r, b, rfl, hw, h⟩
  obtain ⟨z1, z2, z3, z4, z5, z6, z7, z8, z9, z10, z11, z12⟩ := way_neq
  have y1 : (("aside" : Str) = "other") = False := z11
  by_cases hc : c = "red"
  · rw [if_pos hc] at h
    subst hc
    rcases way_cases hw with rfl | rfl | rfl | rfl <;>
    · simp only [stp, xtr, z1, z2, z3, z4, z5, z6, z7, z8, z9, z10, z11, z12, if_true, if_false] at h
      simpa [t_turned, dDisp, dKs, mergeS, putS, getS, z1, z2, z3, z4, z5, z6, z7, z8, z9, z10, z11, z12] using h
  · rw [if_neg hc] at h
    rcases way_cases hw with rfl | rfl | rfl | rfl <;>
    · simp only [stp, xtr, z1, z2, z3, z4, z5, z6, z7, z8, z9, z10, z11, z12, if_true, if_false] at h
      simpa [t_turned, dDisp, dKs, mergeS, putS, getS, z1, z2, z3, z4, z5, z6, z7, z8, z9, z10, z11, z12, hc] using h
/-! ### how many balls are needed -/
def Pg.need : Pg → Int → Int
  | .mark _, _ => 0
  | .draw w a b, m => max (1 - m) (max (a.need (m + (stp w + xtr w))) (b.need (m + (stp w + xtr w))))
/-- so many balls are enough for all draws -/
def Pg.enough : Pg → Int → Prop
  | .mark _, _ => True
  | .draw w a b, n => 1 ≤ n ∧ a.enough (n + (stp w + xtr w)) ∧ b.enough (n + (stp w + xtr w))
theorem Pg.need_enough : ∀ {p : Pg} {m n : Int}, p.need m ≤ n → p.enough (n + m)
  | .mark _, _, _, _ => trivial
  | .draw w a b, m, n, h => by
    unfold Pg.need at h
    have h1 := Pg.need_enough (p := a) (m := m + (stp w + xtr w)) (n := n) (by omega)
    have h2 := Pg.need_enough (p := b) (m := m + (stp w + xtr w)) (n := n) (by omega)
    rw [show n + (m + (stp w + xtr w)) = n + m + (stp w + xtr w) by omega] at h1 h2
    exact ⟨by omega, h1, h2⟩
theorem Pg.need_bd : ∀ {n : Nat} {p : Pg} {m : Int}, p.ok n = true → -m - n ≤ p.need m ∧ p.need m ≤ 1 + m.natAbs + n ∨ p.need m = 0
  | _, .mark _, _, _ => .inr rfl
  | 0, .draw _ _ _, _, h => by cases h
  | n + 1, .draw w a b, m, h => by
    have h : (wayB w && (a.ok n && b.ok n)) = true := h
    simp only [Bool.and_eq_true] at h
    have h1 := Pg.need_bd (m := m + (stp w + xtr w)) h.2.1
    have h2 := Pg.need_bd (m := m + (stp w + xtr w)) h.2.2
    have h3 := sx_bd w
    refine .inl ?_
    unfold Pg.need
    omega
def S_needed (N : Nat) : Spec := fun ds P _ => ∃ (p : Pg) (m : Int) (n : Nat), ds = [p.d, .int m] ∧ n ≤ N ∧ p.ok n = true ∧ P (.int (p.need m))
theorem cut_rest (x y a b : D) : cutD [x, y, a, b] (some 2) none = [a, b] := rfl
theorem zip_rest (x y w a b : D) : List.map (fun p : D × D => D.tup [p.1, p.2]) ([x, y].zip (cutD [.str "draw", w, a, b] (some 2) none)) = [.tup [x, a], .tup [y, b]] := rfl
theorem p_needed (N : Nat) (SR : Spec) (hr : ∀ ds P Ex, N ≠ 0 → S_needed (N - 1) ds P Ex → SR ds P Ex) : ∀ ds Q Ex, S_needed N ds Q Ex → t_needed SR S_turned (startD 5 ds) (endsOf Q Ex) := by
  rintro _ Q Ex ⟨p, m, n, rfl, hn, hp, h⟩
  cases p with
  | mark w =>
    simp [t_needed, Pg.d, iZip2]
    exact h
  | draw w a b =>
    obtain ⟨k, rfl, hw, ha, hb⟩ := Pg.ok_draw hp
    have red : ("red" : Str) = "red" := rfl
    have blue : (("blue" : Str) = "red") = False := by simp only [eq_iff_iff, iff_false]; decide +kernel
    simp [t_needed, Pg.d, iZip2]
    rw [zip_rest]
    simp [forN, b1_needed]
    refine ⟨w, "red", 0, 0, rfl, hw, ?_⟩
    rw [if_pos rfl]
    simp
    refine ⟨[stp w, xtr w], rfl, ?_⟩
    refine hr _ _ _ (by omega) ⟨a, _, k, rfl, by omega, ha, ?_⟩
    simp
    refine ⟨w, "blue", 0, 0, rfl, hw, ?_⟩
    rw [if_neg (by rw [blue]; exact id)]
    simp
    refine ⟨[xtr w, stp w], rfl, ?_⟩
    refine hr _ _ _ (by omega) ⟨b, _, k, rfl, by omega, hb, ?_⟩
    simp
    refine ⟨[1 - m, a.need (m + (stp w + xtr w)), b.need (m + (xtr w + stp w))], rfl, by simp, fun x hx hm => ?_⟩
    have e : x = (Pg.draw w a b).need m := by
      simp at hx hm
      obtain ⟨h1, h2, h3⟩ := hm
      unfold Pg.need
      rw [Int.add_comm (xtr w) (stp w)] at hx h3
      omega
    rw [e]
    exact h
def S_need : Spec := fun ds P _ => ∃ (p : Pg), ds = [p.d] ∧ p.ok 6 = true ∧ P (.int (max 0 (p.need 0)))
theorem check_ok {p : Pg} {P : D → Prop} {Ex : Str → Prop} (h : p.ok 6 = true) (hP : P .non) : S_check_program [p.d] P Ex := by
  refine ⟨p.d, rfl, Pg.kn 7 (Pg.ok_fit h), ?_⟩
  rw [Pg.within, h, if_pos rfl]
  exact hP
theorem p_need : ∀ ds Q Ex, S_need ds Q Ex → t_need S_check_program (S_needed 6) (startD 1 ds) (endsOf Q Ex) := by
  rintro _ Q Ex ⟨p, rfl, hp, h⟩
  simp [t_need]
  refine check_ok hp ?_
  refine ⟨p, 0, 6, rfl, Nat.le_refl _, hp, ?_⟩
  have e : (if p.need 0 > 0 then p.need 0 else 0) = max 0 (p.need 0) := by split <;> omega
  simpa [e] using h
def S_check_urn : Spec := fun ds P Ex => ∃ (p : Pg) (r b : Int), ds = [p.d, .int r, .int b] ∧ p.ok 6 = true ∧ if r + b < max 0 (p.need 0) then Ex "TooFew" else P .non
theorem p_check_urn : ∀ ds Q Ex, S_check_urn ds Q Ex → t_check_urn S_need (startD 3 ds) (endsOf Q Ex) := by
  rintro _ Q Ex ⟨p, r, b, rfl, hp, h⟩
  simp [t_check_urn]
  refine ⟨p, rfl, hp, ?_⟩
  simp
  by_cases hz : r + b < max 0 (p.need 0)
  · rw [if_pos hz] at h
    simpa [hz] using h
  · rw [if_neg hz] at h
    simpa [hz] using h
/-! ### the factor -/
def facT (c : Str) (x y : Int) : Tm := if c = "red" then [([1, 0], 1), ([0, 0], x)] else [([0, 1], 1), ([0, 0], y)]
def S_factor : Spec := fun ds P _ => ∃ (c : Str) (x y : Int), ds = [.str c, .int x, .int y] ∧ x.natAbs ≤ 1000 ∧ y.natAbs ≤ 1000 ∧ (x + y).natAbs ≤ 1000 ∧ ∀ u, Cha 1 10 1 u [x + y] → (∀ r b, ev u r b = if c = "red" then r + x else b + y) → P (.ch u [x + y])
theorem facT_raw {c : Str} {x y : Int} (hx : x.natAbs ≤ 1000) (hy : y.natAbs ≤ 1000) : Raw 1 10 (facT c x y) := by
  unfold facT
  split
  · refine ⟨by show [[(1 : Int), 0], [0, 0]].Nodup; decide, fun q hq => ?_, by simp [nrm]; omega⟩
    simp at hq
    rcases hq with rfl | rfl
    · exact ⟨1, 0, rfl, by omega, by omega⟩
    · exact ⟨0, 0, rfl, by omega, by omega⟩
  · refine ⟨by show [[(0 : Int), 1], [0, 0]].Nodup; decide, fun q hq => ?_, by simp [nrm]; omega⟩
    simp at hq
    rcases hq with rfl | rfl
    · exact ⟨0, 1, rfl, by omega, by omega⟩
    · exact ⟨0, 0, rfl, by omega, by omega⟩
theorem facT_ev (c : Str) (x y r b : Int) : ev (facT c x y) r b = if c = "red" then r + x else b + y := by
  unfold facT
  split
  · simp [ev, mono]; grind
  · simp [ev, mono]; grind
theorem merge_two (k k' : List Int) (v v' : D) (h : ¬ k = k') : mergeT [(k, v), (k', v')] = [(k, v), (k', v')] := by
  simp [mergeT, putT, h]
theorem p_factor : ∀ ds Q Ex, S_factor ds Q Ex → t_factor S_Chance (startD 4 ds) (endsOf Q Ex) := by
  rintro _ Q Ex ⟨c, x, y, rfl, hx, hy, hz, h⟩
  have go : ∀ db, db = D.lst [D.int (x + y)] → S_Chance [termsD (facT c x y), db] Q fun c => Ex c := by
    rintro db rfl
    refine mkC_ok (ps := [x + y]) rfl ⟨.inl rfl, by simp⟩ (facT_raw hx hy) (by omega) fun u qs hu cu eu hp => ?_
    have e : qs = [x + y] := List.perm_singleton.mp hp
    subst e
    exact h u ⟨hu, cu, by simp, fun p hp => by simp at hp; subst hp; exact hz⟩ fun r b => by rw [eu, facT_ev]
  simp [t_factor]
  by_cases hc : c = "red"
  · rw [if_pos hc]
    rw [merge_two _ _ _ _ (by decide)]
    have := go _ rfl
    unfold facT at this
    rw [if_pos hc] at this
    exact this
  · rw [if_neg hc]
    rw [merge_two _ _ _ _ (by decide)]
    have := go _ rfl
    unfold facT at this
    rw [if_neg hc] at this
    exact this
end AU

/-! AuPf: plain laws: the chances of programs. -/
namespace AU
open PySem L2 PySem.Spec PyProof.Rows
/-! ### text-keyed dicts -/
theorem getS_put (kvs : List (Str × D)) (k x : Str) (v : D) : getS (putS kvs k v) x = if k = x then some v else getS kvs x := by
  have key : ∀ l : List (Str × D), ((l.map fun kv => if kv.1 = k then (kv.1, v) else kv).find? fun kv => decide (kv.1 = x)).map (·.2) = if k = x ∧ k ∈ l.map (·.1) then some v else (l.find? fun kv => decide (kv.1 = x)).map (·.2) := by
    intro l
    induction l with
    | nil => simp
    | cons q l ih =>
      rw [List.map_cons, List.find?_cons, List.find?_cons, List.map_cons]
      by_cases h1 : q.1 = k
      · rw [if_pos h1]
        by_cases h2 : q.1 = x
        · have e : k = x := by rw [← h1, h2]
          show Option.map (fun kv : Str × D => kv.2) (match decide (q.1 = x) with | true => some (q.1, v) | false => _) = _
          rw [decide_eq_true h2, if_pos ⟨e, by rw [h1]; exact List.mem_cons_self⟩]
          rfl
        · have e : ¬ k = x := fun z => h2 (by rw [h1, z])
          show Option.map (fun kv : Str × D => kv.2) (match decide (q.1 = x) with | true => some (q.1, v) | false => _) = _
          rw [decide_eq_false h2, if_neg (fun z => e z.1)]
          show Option.map _ (List.find? _ _) = Option.map _ (List.find? _ _)
          rw [ih, if_neg (fun z => e z.1)]
      · rw [if_neg h1]
        by_cases h2 : q.1 = x
        · have e : ¬ k = x := fun z => h1 (by rw [h2, z])
          rw [decide_eq_true h2, if_neg (fun z => e z.1)]
        · rw [decide_eq_false h2]
          show Option.map _ (List.find? _ _) = if _ then _ else Option.map _ (List.find? _ _)
          rw [ih]
          have : k ∈ q.1 :: l.map (·.1) ↔ k ∈ l.map (·.1) := by
            rw [List.mem_cons]
            exact ⟨fun z => z.elim (fun e => absurd e.symm h1) id, .inr⟩
          simp only [this]
  unfold putS getS
  by_cases hk : k ∈ kvs.map (·.1)
  · have ha : (kvs.any fun kv => decide (kv.1 = k)) = true := by
      obtain ⟨q, hq, e⟩ := List.mem_map.mp hk
      exact List.any_eq_true.mpr ⟨q, hq, by simpa using e⟩
    rw [if_pos ha, key kvs]
    simp [hk]
  · have ha : ¬ (kvs.any fun kv => decide (kv.1 = k)) = true := fun z => by
      obtain ⟨q, hq, e⟩ := List.any_eq_true.mp z
      exact hk (List.mem_map.mpr ⟨q, hq, by simpa using e⟩)
    rw [if_neg ha, List.find?_append]
    by_cases h : k = x
    · subst h
      have : kvs.find? (fun kv => decide (kv.1 = k)) = none := List.find?_eq_none.mpr fun q hq e => hk (List.mem_map.mpr ⟨q, hq, by simpa using e⟩)
      rw [this]
      simp
    · simp [h]
theorem putS_keys (kvs : List (Str × D)) (k : Str) (v : D) : (putS kvs k v).map (·.1) = if k ∈ kvs.map (·.1) then kvs.map (·.1) else kvs.map (·.1) ++ [k] := by
  unfold putS
  by_cases hk : k ∈ kvs.map (·.1)
  · have ha : (kvs.any fun kv => decide (kv.1 = k)) = true := by
      obtain ⟨q, hq, e⟩ := List.mem_map.mp hk
      exact List.any_eq_true.mpr ⟨q, hq, by simpa using e⟩
    rw [if_pos ha, if_pos hk, List.map_map]
    apply List.map_congr_left
    intro q _
    show (if q.1 = k then (q.1, v) else q).1 = q.1
    split <;> rfl
  · have ha : ¬ (kvs.any fun kv => decide (kv.1 = k)) = true := fun z => by
      obtain ⟨q, hq, e⟩ := List.any_eq_true.mp z
      exact hk (List.mem_map.mpr ⟨q, hq, by simpa using e⟩)
    rw [if_neg ha, if_neg hk, List.map_append]; rfl
theorem getS_none {kvs : List (Str × D)} {k : Str} : getS kvs k = none ↔ k ∉ kvs.map (·.1) := by
  unfold getS
  rw [Option.map_eq_none_iff, List.find?_eq_none]
  constructor
  · intro h hm
    obtain ⟨q, hq, e⟩ := List.mem_map.mp hm
    exact h q hq (by simpa using e)
  · intro h q hq e
    exact h (List.mem_map.mpr ⟨q, hq, by simpa using e⟩)
theorem getS_mem {kvs : List (Str × D)} {k : Str} {v : D} (h : getS kvs k = some v) : (k, v) ∈ kvs := by
  unfold getS at h
  obtain ⟨q, hq, e⟩ := Option.map_eq_some_iff.mp h
  have h1 := List.mem_of_find?_eq_some hq
  have h2 := List.find?_some hq
  have e1 : q.1 = k := by simpa using h2
  rw [← e1, ← e]
  exact h1
theorem getS_some {kvs : List (Str × D)} {k : Str} (h : k ∈ kvs.map (·.1)) : ∃ v, getS kvs k = some v := by
  cases e : getS kvs k with
  | none => exact absurd h (getS_none.mp e)
  | some v => exact ⟨v, rfl⟩
/-! ### what a walk finds -/
def Pg.ch : Pg → Int → Int → Str → Rat
  | .mark w, _, _, m => if w = m then 1 else 0
  | .draw w a b, r, l, m => (r : Rat) / ((r + l : Int) : Rat) * a.ch (r + stp w) (l + xtr w) m + (l : Rat) / ((r + l : Int) : Rat) * b.ch (r + xtr w) (l + stp w) m
def Pg.mean : Pg → Int → Int → Rat
  | .mark _, _, _ => 0
  | .draw w a b, r, l => 1 + (r : Rat) / ((r + l : Int) : Rat) * a.mean (r + stp w) (l + xtr w) + (l : Rat) / ((r + l : Int) : Rat) * b.mean (r + xtr w) (l + stp w)
def Pg.marks : Pg → List Str
  | .mark w => [w]
  | .draw _ a b => a.marks ++ b.marks
theorem Pg.ch_none : ∀ {p : Pg} {m : Str} {r l : Int}, m ∉ p.marks → p.ch r l m = 0
  | .mark w, m, r, l, h => by
    have : ¬ w = m := fun e => h (by rw [e]; exact List.mem_singleton.mpr rfl)
    simp [Pg.ch, this]
  | .draw w a b, m, r, l, h => by
    have h1 : m ∉ a.marks := fun z => h (List.mem_append.mpr (.inl z))
    have h2 : m ∉ b.marks := fun z => h (List.mem_append.mpr (.inr z))
    simp only [Pg.ch, Pg.ch_none h1, Pg.ch_none h2]
    grind
/-- a chance's value where enough balls are there: V -/
structure Val (ok : Int → Int → Prop) (V : Int → Int → Rat) (t : Tm) (ps : List Int) : Prop where
  pos : ∀ r b, ok r b → ∀ p ∈ ps, 1 ≤ r + b + p
  val : ∀ r b, ok r b → (ev t r b : Rat) = V r b * (prodP ps r b : Rat)
theorem prod_pos {r b : Int} : ∀ {ps : List Int}, (∀ p ∈ ps, 1 ≤ r + b + p) → 0 < prodP ps r b
  | [], _ => by simp [prodP]
  | p :: ps, h => by
    have ih := prod_pos (ps := ps) fun x hx => h x (List.mem_cons_of_mem _ hx)
    have hp := h p List.mem_cons_self
    unfold prodP
    exact Int.mul_pos (by omega) ih
theorem Val.at_ {ok : Int → Int → Prop} {V : Int → Int → Rat} {t : Tm} {ps : List Int} (h : Val ok V t ps) {r b : Int} (hr : ok r b) : prodP ps r b ≠ 0 ∧ Rat.divInt (ev t r b) (prodP ps r b) = V r b := by
  have hp := prod_pos (h.pos r b hr)
  have hv := h.val r b hr
  refine ⟨by omega, ?_⟩
  rw [Rat.divInt_eq_div, hv]
  have : ((prodP ps r b : Int) : Rat) ≠ 0 := by
    intro z
    have : prodP ps r b = 0 := by exact_mod_cast z
    omega
  grind
end AU

/-! AuPg: plain laws: the chances of programs, reckoned. -/
namespace AU
open PySem L2 PySem.Spec PyProof.Rows
theorem Val.mul {ok ok' : Int → Int → Prop} {F : Int → Int → Int} {V : Int → Int → Rat} {u t w : Tm} {s : Int} {qs rs : List Int} (h : Val ok' V t qs) (hu : ∀ r b, ev u r b = F r b) (hN : ∀ r b, ok r b → 1 ≤ r + b + s) (hok : ∀ r b, ok r b → ok' r b)
    (hw : ∀ r b, ev w r b = ev u r b * ev t r b) (hp : rs.Perm ([s] ++ qs)) : Val ok (fun r b => (F r b : Rat) / ((r + b + s : Int) : Rat) * V r b) w rs := by
  refine ⟨fun r b hr p hp' => ?_, fun r b hr => ?_⟩
  · rcases List.mem_cons.mp (hp.mem_iff.mp hp') with e | h1
    · rw [e]; exact hN r b hr
    · exact h.pos r b (hok r b hr) p h1
  · have hv := h.val r b (hok r b hr)
    have hn := hN r b hr
    have hz : ((r + b + s : Int) : Rat) ≠ 0 := by
      intro z
      have : r + b + s = 0 := by exact_mod_cast z
      omega
    rw [hw, hu, prodP_perm hp]
    have e : prodP ([s] ++ qs) r b = (r + b + s) * prodP qs r b := rfl
    rw [e, Rat.intCast_mul, Rat.intCast_mul, hv]
    grind
theorem Val.add {ok : Int → Int → Prop} {V V' : Int → Int → Rat} {t o u : Tm} {ps qs rs : List Int} (h : Val ok V t ps) (h' : Val ok V' o qs) (hu : ∀ r b, ev u r b = ev t r b * prodP (lackL ps qs) r b + 1 * (ev o r b * prodP (lackL qs ps) r b)) (hp : rs.Perm (ps ++ lackL ps qs)) :
    Val ok (fun r b => V r b + V' r b) u rs := by
  refine ⟨fun r b hr p hp' => ?_, fun r b hr => ?_⟩
  · rcases List.mem_append.mp (hp.mem_iff.mp hp') with h1 | h1
    · exact h.pos r b hr p h1
    · exact h'.pos r b hr p (lackL_mem h1)
  · have v1 := h.val r b hr
    have v2 := h'.val r b hr
    have e1 : prodP rs r b = prodP ps r b * prodP (lackL ps qs) r b := by rw [prodP_perm hp, prodP_app]
    have e2 : prodP rs r b = prodP qs r b * prodP (lackL qs ps) r b := by rw [prodP_perm (hp.trans (lackL_perm ps qs)), prodP_app]
    have e3 : (prodP ps r b : Rat) * (prodP (lackL ps qs) r b : Rat) = (prodP qs r b : Rat) * (prodP (lackL qs ps) r b : Rat) := by
      rw [← Rat.intCast_mul, ← Rat.intCast_mul, ← e1, ← e2]
    rw [hu, e1]
    simp only [Rat.intCast_mul, Rat.intCast_add, v1, v2]
    have : ((1 : Int) : Rat) = 1 := rfl
    rw [this]
    grind
theorem Val.congr {ok ok' : Int → Int → Prop} {V V' : Int → Int → Rat} {t : Tm} {ps : List Int} (h : Val ok V t ps) (hok : ∀ r b, ok' r b → ok r b) (hV : ∀ r b, ok' r b → V r b = V' r b) : Val ok' V' t ps :=
  ⟨fun r b hr => h.pos r b (hok r b hr), fun r b hr => by rw [← hV r b hr]; exact h.val r b (hok r b hr)⟩
theorem Val.nothing {ok : Int → Int → Prop} : Val ok (fun _ _ => 0) [] [] := ⟨fun _ _ _ _ h => (by cases h), fun r b _ => by simp [ev]⟩
/-- factor times a chance -/
theorem prod_ok {dd ee ll : Nat} {u t : Tm} {s : Int} {qs : List Int} {P : D → Prop} {Ex : Str → Prop} (hu : Cha 1 10 1 u [s]) (ht : Cha dd ee ll t qs) (hD : dd < 23) (hE : ee ≤ 2900) (hL : ll ≤ 900)
    (h : ∀ w rs, Cha (dd + 1) (ee + 10) (ll + 1) w rs → rs.Perm ([s] ++ qs) → (∀ r b, ev w r b = ev u r b * ev t r b) → P (.ch w rs)) : S_mul [.ch u [s], .ch t qs] P Ex := by
  refine mul_ok ⟨u, t, [s], qs, 1, 10, 1, dd, ee, ll, rfl, hu, ht, by omega, by omega, by omega, by omega, fun w rs hw cw hp he => ?_⟩
  refine h w rs ⟨hw.mono (by omega) (by omega), cw, ?_, fun p hp' => ?_⟩ hp he
  · have := ht.len
    rw [hp.length_eq, List.length_append]
    simp
    omega
  · rcases List.mem_append.mp (hp.mem_iff.mp hp') with h1 | h1
    · exact hu.sm p h1
    · exact ht.sm p h1
theorem lackL_self_nil (ps : List Int) : lackL ps [] = [] := rfl
/-- nothing and a chance -/
theorem sum0_ok {dd ee ll : Nat} {t : Tm} {qs : List Int} {P : D → Prop} {Ex : Str → Prop} (ht : Cha dd ee ll t qs) (hD : dd < 24) (hLD : ll ≤ dd) (hE : ee ≤ 2900) (hL : 10 * ll ≤ ee)
    (h : ∀ w rs, Cha dd (ee + 1) ll w rs → rs.Perm qs → (∀ ok V, Val ok V t qs → Val ok V w rs) → P (.ch w rs)) : S_add [.ch [] [], .ch t qs] P Ex := by
  have n0 := nil_form 0 0
  have l := ht.len
  refine add_ok ⟨[], t, [], qs, 1, 0, 0, 0, dd, ee, ll, dd, ee, rfl, ⟨n0.1, n0.2, Nat.le_refl _, fun _ h => (by cases h)⟩, ht, .inl rfl, by omega, by omega, ?_, ?_, ?_, ?_, hD, by omega, fun w rs hw cw hp he => ?_⟩
  · rw [lackL_none]; omega
  · rw [lackL_self_nil]; exact Nat.le_refl _
  · rw [lackL_none]; omega
  · rw [lackL_self_nil]; exact Nat.le_refl _
  · have hp' : rs.Perm qs := by rw [lackL_none] at hp; exact hp
    refine h w rs ⟨hw, cw, by rw [hp'.length_eq]; exact l, fun p z => ht.sm p (hp'.mem_iff.mp z)⟩ hp' fun ok V hV => ?_
    exact (Val.add Val.nothing hV he hp).congr (fun _ _ z => z) fun r b _ => by grind
/-- two chances with a part in common -/
theorem sum_ok {dd ee ll dd' ee' : Nat} {t o : Tm} {ps qs : List Int} {s : Int} {P : D → Prop} {Ex : Str → Prop} (ht : Cha dd ee ll t ps) (ho : Cha dd ee ll o qs) (hs : s ∈ ps) (hs' : s ∈ qs) (hD : dd + ll - 1 = dd') (hD' : dd' < 24) (hE : ee + 10 * ll = ee') (hE' : ee' < 2900) (hL : ll ≤ 900)
    (h : ∀ w rs, Cha dd' (ee' + 1) (ll + ll - 1) w rs → (∀ ok V V', Val ok V t ps → Val ok V' o qs → Val ok (fun r b => V r b + V' r b) w rs) → P (.ch w rs)) : S_add [.ch t ps, .ch o qs] P Ex := by
  have l1 := ht.len
  have l2 := ho.len
  have m1 := lackL_lt hs hs'
  have m2 := lackL_lt hs' hs
  refine add_ok ⟨t, o, ps, qs, 1, dd, ee, ll, dd, ee, ll, dd', ee', rfl, ht, ho, .inl rfl, by omega, by omega, by omega, by omega, by omega, by omega, hD', by omega, fun w rs hw cw hp he => ?_⟩
  refine h w rs ⟨hw, cw, ?_, fun p hp' => ?_⟩ fun ok V V' hV hV' => Val.add hV hV' he hp
  · rw [hp.length_eq, List.length_append]
    omega
  · rcases List.mem_append.mp (hp.mem_iff.mp hp') with h1 | h1
    · exact ht.sm p h1
    · exact ho.sm p (lackL_mem h1)
end AU

/-! AuPh: plain laws: all_chances. -/
namespace AU
open PySem L2 PySem.Spec PyProof.Rows
/-- found[mark] = found.get(mark, nothing()) + factor(..) * some[mark], for the marks ks -/
def StepM (col : Str) (x y : Int) (some_ : List (Str × D)) (m : Str) (cur : D) (P : D → Prop) : Prop :=
  S_factor [.str col, .int x, .int y] (fun f => ∃ d, getS some_ m = some d ∧ isCh f = true ∧ isCh d = true ∧ S_mul [f, d] (fun y1 => isCh cur = true ∧ isCh y1 = true ∧ S_add [cur, y1] P fun _ => False) fun _ => False) fun _ => False
theorem marks_loop {S1 SR : Spec} {k : EndsD} {c0 c5 c8 c9 : Cell} {x y : Int} {col : Str} {some_ : List (Str × D)} {R : Str → D → Prop} : ∀ (ks : List Str) (found : List (Str × D)) (c7 : Cell), ks.Nodup → (found.map (·.1)).Nodup → found.length + ks.length ≤ 16777216 →
    (∀ m ∈ ks, ∀ P : D → Prop, (∀ d, R m d → P d) → StepM col x y some_ m ((getS found m).getD (.ch [] [])) P) →
    (∀ found' c7, (found'.map (·.1)).Nodup → found'.length ≤ found.length + ks.length → (∀ m, m ∈ found'.map (·.1) ↔ m ∈ found.map (·.1) ∨ m ∈ ks) → (∀ m ∈ ks, ∃ d, getS found' m = some d ∧ R m d) → (∀ m, m ∉ ks → getS found' m = getS found m) →
      k.nx [c0, .fz (.int x), .fz (.int y), .ow (.dS found'), .fz (.str col), c5, .fz (.dS some_), c7, c8, c9]) →
    forN (dgN 7) (b1_all_chances S1 S_mul S_add S_turned SR S_nothing S_factor) (ks.map D.str) [c0, .fz (.int x), .fz (.int y), .ow (.dS found), .fz (.str col), c5, .fz (.dS some_), c7, c8, c9] k
  | [], found, c7, _, nf, _, _, h => h found c7 nf (by simp) (fun m => by simp) (fun m hm => by cases hm) (fun _ _ => rfl)
  | m :: ks, found, c7, nd, nf, hl, hs, h => by
    rw [List.length_cons] at hl
    obtain ⟨n1, n2⟩ := List.nodup_cons.mp nd
    rw [List.map_cons]
    unfold forN
    have nk := putS_keys found m
    simp [b1_all_chances, fOwn]
    refine ⟨rfl, ?_⟩
    refine hs m List.mem_cons_self _ fun d hd => ⟨by omega, ?_⟩
    have ll : (putS found m d).length ≤ found.length + 1 := by
      have := congrArg List.length (nk d)
      rw [List.length_map] at this
      rw [this]
      split
      · rw [List.length_map]; omega
      · rw [List.length_append, List.length_map]; simp
    refine marks_loop (S1 := S1) (SR := SR) (R := R) ks (putS found m d) _ n2 ?_ (by omega) (fun m' hm' P hP => ?_) fun found' c7 q1 q2 q3 q4 q5 => ?_
    · rw [nk]
      split
      · exact nf
      · rename_i hn
        rw [List.nodup_append]
        refine ⟨nf, by simp, fun a ha b hb e => ?_⟩
        have : b = m := by simpa using hb
        exact hn (by rw [← this, ← e]; exact ha)
    · have ne : ¬ m = m' := fun e => n1 (by rw [e]; exact hm')
      rw [getS_put, if_neg ne]
      exact hs m' (List.mem_cons_of_mem _ hm') P hP
    · have hm : m ∉ ks := n1
      refine h found' c7 q1 (by rw [List.length_cons]; omega) (fun z => ?_) (fun z hz => ?_) fun z hz => ?_
      · rw [q3, nk, List.mem_cons]
        split
        · rename_i hi
          constructor
          · rintro (a | a)
            · exact .inl a
            · exact .inr (.inr a)
          · rintro (a | a | a)
            · exact .inl a
            · rw [a]; exact .inl hi
            · exact .inr a
        · rw [List.mem_append, List.mem_singleton]
          constructor
          · rintro ((a | a) | a)
            · exact .inl a
            · exact .inr (.inl a)
            · exact .inr (.inr a)
          · rintro (a | a | a)
            · exact .inl (.inl a)
            · exact .inl (.inr a)
            · exact .inr a
      · rcases List.mem_cons.mp hz with e | hz
        · subst e
          refine ⟨d, ?_, hd⟩
          rw [q5 z hm, getS_put, if_pos rfl]
        · exact q4 z hz
      · have z1 : ¬ m = z := fun e => hz (by rw [e]; exact List.mem_cons_self)
        rw [q5 z (fun q => hz (List.mem_cons_of_mem _ q)), getS_put, if_neg z1]
/-! ### what all_chances answers -/
def AcV (N : Nat) (p : Pg) (x y : Int) (m : Str) (d : D) : Prop := ∃ t ps, d = .ch t ps ∧ Cha (2 ^ N - 1) (12 * N + 20 * 2 ^ N) (2 ^ N - 1) t ps ∧ Val (fun r b => p.enough (r + b + (x + y))) (fun r b => p.ch (r + x) (b + y) m) t ps
structure AC (N : Nat) (p : Pg) (x y : Int) (kvs : List (Str × D)) : Prop where
  nd : (kvs.map (·.1)).Nodup
  mem : ∀ m, m ∈ kvs.map (·.1) ↔ m ∈ p.marks
  val : ∀ m ∈ p.marks, ∃ d, getS kvs m = some d ∧ AcV N p x y m d
theorem AC.len {N : Nat} {p : Pg} {x y : Int} {kvs : List (Str × D)} (h : AC N p x y kvs) : kvs.length ≤ p.marks.length := by
  have := len_sub h.nd (v := p.marks) fun m hm => (h.mem m).mp hm
  simpa using this
theorem Pg.marks_len : ∀ {n : Nat} {p : Pg}, p.ok n = true → p.marks.length ≤ 2 ^ n
  | n, .mark _, _ => by show 1 ≤ _; exact pow2_pos n
  | 0, .draw _ _ _, h => by cases h
  | n + 1, .draw w a b, h => by
    have h : (wayB w && (a.ok n && b.ok n)) = true := h
    simp only [Bool.and_eq_true] at h
    have h1 := Pg.marks_len h.2.1
    have h2 := Pg.marks_len h.2.2
    show (a.marks ++ b.marks).length ≤ _
    rw [List.length_append, Nat.pow_succ]
    omega
def S_all_chances (N : Nat) : Spec := fun ds P _ => ∃ (p : Pg) (x y : Int) (n : Nat), ds = [p.d, .int x, .int y] ∧ n ≤ N ∧ n ≤ 4 ∧ p.ok n = true ∧ x.natAbs + n ≤ 1000 ∧ y.natAbs + n ≤ 1000 ∧ (x + y).natAbs + n ≤ 1000 ∧ ∀ kvs, AC n p x y kvs → P (.dS kvs)
/-- one step, as it stands in the model -/
theorem stepM_ok {col : Str} {x y : Int} {some_ : List (Str × D)} {m : Str} {cur : D} {P : D → Prop} {t : Tm} {qs : List Int} {dd ee ll : Nat} (hx : x.natAbs ≤ 1000) (hy : y.natAbs ≤ 1000) (hz : (x + y).natAbs ≤ 1000) (hg : getS some_ m = some (.ch t qs)) (ht : Cha dd ee ll t qs)
    (hD : dd < 23) (hE : ee ≤ 2900) (hL : ll ≤ 900) (hc : isCh cur = true)
    (h : ∀ u w rs, (∀ r b, ev u r b = if col = "red" then r + x else b + y) → Cha (dd + 1) (ee + 10) (ll + 1) w rs → rs.Perm ([x + y] ++ qs) → (∀ r b, ev w r b = ev u r b * ev t r b) → S_add [cur, .ch w rs] P fun _ => False) : StepM col x y some_ m cur P := by
  refine ⟨col, x, y, rfl, hx, hy, hz, fun u hu eu => ⟨_, hg, rfl, rfl, ?_⟩⟩
  exact prod_ok hu ht hD hE hL fun w rs hw hp he => ⟨hc, rfl, h u w rs eu hw hp he⟩
end AU

/-! AuPi: plain laws: all_chances, its levels. -/
namespace AU
open PySem L2 PySem.Spec PyProof.Rows
theorem blue_red : ¬ (("blue" : Str) = "red") := by decide +kernel
/-- the part of a draw's chance that stands behind red -/
def redV (w : Str) (a : Pg) (x y : Int) (m : Str) (r b : Int) : Rat := ((r + x : Int) : Rat) / ((r + b + (x + y) : Int) : Rat) * a.ch (r + (x + stp w)) (b + (y + xtr w)) m
def bluV (w : Str) (a : Pg) (x y : Int) (m : Str) (r b : Int) : Rat := ((b + y : Int) : Rat) / ((r + b + (x + y) : Int) : Rat) * a.ch (r + (x + xtr w)) (b + (y + stp w)) m
theorem ch_draw {w : Str} {a b : Pg} {x y : Int} {m : Str} (r l : Int) : (Pg.draw w a b).ch (r + x) (l + y) m = redV w a x y m r l + bluV w b x y m r l := by
  simp only [Pg.ch, redV, bluV]
  rw [show r + l + (x + y) = r + x + (l + y) by omega, show r + (x + stp w) = r + x + stp w by omega, show l + (y + xtr w) = l + y + xtr w by omega, show r + (x + xtr w) = r + x + xtr w by omega, show l + (y + stp w) = l + y + stp w by omega]
def R1 (k : Nat) (w : Str) (a b : Pg) (x y : Int) (m : Str) (d : D) : Prop := ∃ t ps, d = .ch t ps ∧ Cha (2 ^ k) (12 * k + 20 * 2 ^ k + 11) (2 ^ k) t ps ∧ (x + y) ∈ ps ∧ Val (fun r l => (Pg.draw w a b).enough (r + l + (x + y))) (redV w a x y m) t ps
theorem AcV.of {k : Nat} {w : Str} {a b : Pg} {x y : Int} {m : Str} {d : D} (h : R1 k w a b x y m d) (hb : m ∉ b.marks) : AcV (k + 1) (.draw w a b) x y m d := by
  obtain ⟨t, ps, e, hc, _, hv⟩ := h
  have := pow2_pos k
  refine ⟨t, ps, e, hc.mono (by rw [Nat.pow_succ]; omega) (by rw [Nat.pow_succ]; omega) (by rw [Nat.pow_succ]; omega), hv.congr (fun _ _ z => z) fun r l _ => ?_⟩
  rw [ch_draw]
  have : bluV w b x y m r l = 0 := by unfold bluV; rw [Pg.ch_none hb]; grind
  rw [this]
  grind
theorem pow_le8 {k : Nat} (h : k ≤ 3) : 2 ^ k ≤ 8 := Nat.le_trans (Nat.pow_le_pow_right (by decide) h) (by decide)
/-- the product's value: behind red -/
theorem val_red {k : Nat} {w : Str} {a b : Pg} {x y : Int} {m : Str} {t u v : Tm} {qs rs : List Int} (ht : Val (fun r l => a.enough (r + l + (x + stp w + (y + xtr w)))) (fun r l => a.ch (r + (x + stp w)) (l + (y + xtr w)) m) t qs)
    (eu : ∀ r l, ev u r l = r + x) (hp : rs.Perm ([x + y] ++ qs)) (he : ∀ r l, ev v r l = ev u r l * ev t r l) : Val (fun r l => (Pg.draw w a b).enough (r + l + (x + y))) (redV w a x y m) v rs := by
  refine (Val.mul (s := x + y) (F := fun r l => r + x) (ok := fun r l => (Pg.draw w a b).enough (r + l + (x + y))) ht eu (fun r l z => ?_) (fun r l z => ?_) he hp).congr (fun _ _ z => z) fun r l _ => rfl
  · exact z.1
  · have := z.2.1
    rw [show r + l + (x + y) + (stp w + xtr w) = r + l + (x + stp w + (y + xtr w)) by omega] at this
    exact this
theorem val_blu {k : Nat} {w : Str} {a b : Pg} {x y : Int} {m : Str} {t u v : Tm} {qs rs : List Int} (ht : Val (fun r l => b.enough (r + l + (x + xtr w + (y + stp w)))) (fun r l => b.ch (r + (x + xtr w)) (l + (y + stp w)) m) t qs)
    (eu : ∀ r l, ev u r l = l + y) (hp : rs.Perm ([x + y] ++ qs)) (he : ∀ r l, ev v r l = ev u r l * ev t r l) : Val (fun r l => (Pg.draw w a b).enough (r + l + (x + y))) (bluV w b x y m) v rs := by
  refine (Val.mul (s := x + y) (F := fun r l => l + y) (ok := fun r l => (Pg.draw w a b).enough (r + l + (x + y))) ht eu (fun r l z => ?_) (fun r l z => ?_) he hp).congr (fun _ _ z => z) fun r l _ => rfl
  · exact z.1
  · have := z.2.2
    rw [show r + l + (x + y) + (stp w + xtr w) = r + l + (x + xtr w + (y + stp w)) by omega] at this
    exact this
theorem step_red {k : Nat} {w : Str} {a b : Pg} {x y : Int} {kvs : List (Str × D)} {m : Str} {P : D → Prop} (hk : k ≤ 3) (hx : x.natAbs ≤ 1000) (hy : y.natAbs ≤ 1000) (hz : (x + y).natAbs ≤ 1000) (hA : AC k a (x + stp w) (y + xtr w) kvs) (hm : m ∈ a.marks)
    (h : ∀ d, R1 k w a b x y m d → P d) : StepM "red" x y kvs m (.ch [] []) P := by
  obtain ⟨d, hg, t, qs, rfl, ht, hv⟩ := hA.val m hm
  have hp := pow_le8 hk
  have := pow2_pos k
  refine stepM_ok hx hy hz hg ht (by omega) (by omega) (by omega) rfl fun u v rs eu hv' hp' he => ?_
  have hv' : Cha (2 ^ k) (12 * k + 20 * 2 ^ k + 10) (2 ^ k) v rs := hv'.mono (by omega) (by omega) (by omega)
  refine sum0_ok hv' (by omega) (by omega) (by omega) (by omega) fun v2 rs2 h2 p2 q2 => ?_
  exact h _ ⟨v2, rs2, rfl, h2.mono (by omega) (by omega) (by omega), p2.mem_iff.mpr (hp'.mem_iff.mpr (by simp)), q2 _ _ (val_red (k := k) hv (fun r l => by rw [eu, if_pos rfl]) hp' he)⟩
theorem step_blu {k : Nat} {w : Str} {a b : Pg} {x y : Int} {kvs : List (Str × D)} {m : Str} {cur : D} {P : D → Prop} (hk : k ≤ 3) (hx : x.natAbs ≤ 1000) (hy : y.natAbs ≤ 1000) (hz : (x + y).natAbs ≤ 1000) (hA : AC k b (x + xtr w) (y + stp w) kvs) (hm : m ∈ b.marks)
    (hc : (m ∉ a.marks ∧ cur = .ch [] []) ∨ R1 k w a b x y m cur) (h : ∀ d, AcV (k + 1) (.draw w a b) x y m d → P d) : StepM "blue" x y kvs m cur P := by
  obtain ⟨d, hg, t, qs, rfl, ht, hv⟩ := hA.val m hm
  have hp := pow_le8 hk
  have := pow2_pos k
  have isC : isCh cur = true := by
    rcases hc with ⟨_, rfl⟩ | ⟨_, _, rfl, _⟩ <;> rfl
  refine stepM_ok hx hy hz hg ht (by omega) (by omega) (by omega) isC fun u v rs eu hv' hp' he => ?_
  have hv' : Cha (2 ^ k) (12 * k + 20 * 2 ^ k + 10) (2 ^ k) v rs := hv'.mono (by omega) (by omega) (by omega)
  have vb := val_blu (k := k) (a := a) hv (fun r l => by rw [eu, if_neg blue_red]) hp' he
  rcases hc with ⟨ha, rfl⟩ | ⟨t1, ps1, rfl, hc1, hs1, hv1⟩
  · refine sum0_ok hv' (by omega) (by omega) (by omega) (by omega) fun v2 rs2 h2 p2 q2 => ?_
    refine h _ ⟨v2, rs2, rfl, h2.mono (by rw [Nat.pow_succ]; omega) (by rw [Nat.pow_succ]; omega) (by rw [Nat.pow_succ]; omega), (q2 _ _ vb).congr (fun _ _ z => z) fun r l _ => ?_⟩
    rw [ch_draw]
    have : redV w a x y m r l = 0 := by unfold redV; rw [Pg.ch_none ha]; grind
    rw [this]
    grind
  · refine sum_ok (s := x + y) hc1 (hv'.mono (Nat.le_refl _) (by omega) (Nat.le_refl _)) hs1 (hp'.mem_iff.mpr (by simp)) rfl (by omega) rfl (by omega) (by omega) fun v2 rs2 h2 q2 => ?_
    exact h _ ⟨v2, rs2, rfl, h2.mono (by rw [Nat.pow_succ]; omega) (by rw [Nat.pow_succ]; omega) (by rw [Nat.pow_succ]; omega), (q2 _ _ _ hv1 vb).congr (fun _ _ z => z) fun r l _ => (ch_draw r l).symm⟩
theorem keyS_map (kvs : List (Str × D)) : List.map (fun q : Str × D => D.str q.1) kvs = (kvs.map (·.1)).map D.str := by rw [List.map_map]; rfl
theorem p_all_chances (N : Nat) (SR : Spec) (hr : ∀ ds P Ex, N ≠ 0 → S_all_chances (N - 1) ds P Ex → SR ds P Ex) : ∀ ds Q Ex, S_all_chances N ds Q Ex → t_all_chances S_Chance S_mul S_add S_turned SR S_nothing S_factor (startD 10 ds) (endsOf Q Ex) := by
  rintro _ Q Ex ⟨p, x, y, n, rfl, hn, h4, hp, hx, hy, hz, h⟩
  cases p with
  | mark w =>
    simp [t_all_chances, Pg.d]
    simp [dDisp, dKs]
    refine mkC_ok (t := oneT 1) (d := 0) (e := 0) rfl pt_nil (oneT_raw (by decide)) (by omega) fun u qs hu cu eu hq => ?_
    have : qs = [] := hq.eq_nil
    subst this
    refine h [(w, .ch u [])] ⟨by simp, fun m => by simp [Pg.marks], fun m hm => ?_⟩
    have e : m = w := List.mem_singleton.mp hm
    subst e
    refine ⟨_, by simp [getS], u, [], rfl, ⟨hu.mono (by omega) (by omega), cu, Nat.zero_le _, fun _ h => (by cases h)⟩, ⟨fun _ _ _ _ h => (by cases h), fun r l _ => ?_⟩⟩
    rw [eu, oneT_ev]
    simp [Pg.ch, prodP]
  | draw w a b =>
    obtain ⟨k, rfl, hw, ha, hb⟩ := Pg.ok_draw hp
    have la := Pg.marks_len ha
    have lb := Pg.marks_len hb
    have hk : k ≤ 3 := by omega
    have h8 := pow_le8 hk
    have sx := sx_bd w
    simp [t_all_chances, Pg.d, iZip2]
    rw [zip_rest]
    unfold forN
    simp [b2_all_chances]
    refine ⟨w, "red", x, y, rfl, hw, ?_⟩
    rw [if_pos rfl]
    simp
    refine hr _ _ _ (by omega) ⟨a, _, _, k, rfl, by omega, by omega, ha, by omega, by omega, by omega, fun kvs1 A1 => ?_⟩
    simp
    rw [keyS_map]
    have L1 := A1.len
    refine marks_loop (R := R1 k w a b x y) (kvs1.map (·.1)) [] .un A1.nd (by simp) (by simp; omega) (fun m hm P hP => ?_) fun f1 c7 n1 l1 m1 v1 o1 => ?_
    · exact step_red hk (by omega) (by omega) (by omega) A1 ((A1.mem m).mp hm) hP
    · unfold forN
      simp
      refine ⟨w, "blue", x, y, rfl, hw, ?_⟩
      rw [if_neg blue_red]
      simp
      refine hr _ _ _ (by omega) ⟨b, _, _, k, rfl, by omega, by omega, hb, by omega, by omega, by omega, fun kvs2 A2 => ?_⟩
      simp
      rw [keyS_map]
      have L2 := A2.len
      simp at l1
      have mf : ∀ m, m ∈ f1.map (·.1) ↔ m ∈ a.marks := fun m => by
        rw [m1, A1.mem]
        simp
      refine marks_loop (R := AcV (k + 1) (.draw w a b) x y) (kvs2.map (·.1)) f1 c7 A2.nd n1 (by simp; omega) (fun m hm P hP => ?_) fun f2 c7 n2 l2 m2 v2 o2 => ?_
      · refine step_blu (a := a) hk (by omega) (by omega) (by omega) A2 ((A2.mem m).mp hm) ?_ hP
        by_cases hma : m ∈ a.marks
        · obtain ⟨d, hd, hR⟩ := v1 m ((A1.mem m).mpr hma)
          rw [hd]
          exact .inr hR
        · have : getS f1 m = none := getS_none.mpr fun z => hma ((mf m).mp z)
          rw [this]
          exact .inl ⟨hma, rfl⟩
      · unfold forN
        simp
        refine h f2 ⟨n2, fun m => ?_, fun m hm => ?_⟩
        · rw [m2, mf, A2.mem]
          exact List.mem_append.symm
        · by_cases hmb : m ∈ b.marks
          · exact v2 m ((A2.mem m).mpr hmb)
          · have hma : m ∈ a.marks := (List.mem_append.mp hm).resolve_right hmb
            obtain ⟨d, hd, hR⟩ := v1 m ((A1.mem m).mpr hma)
            refine ⟨d, ?_, AcV.of hR hmb⟩
            rw [o2 m (fun z => hmb ((A2.mem m).mp z)), hd]
end AU

/-! AuPj: plain laws: all_draws, found_chances, chances, mean_draws. -/
namespace AU
open PySem L2 PySem.Spec PyProof.Rows
/-- a whole number and a chance -/
theorem sum1_ok {dd ee ll : Nat} {t0 t : Tm} {qs : List Int} {P : D → Prop} {Ex : Str → Prop} (h0 : Cha 0 0 0 t0 []) (ht : Cha dd ee ll t qs) (hD : dd < 24) (hLD : ll ≤ dd) (hE : ee ≤ 2900) (hL : 10 * ll ≤ ee)
    (h : ∀ w rs, Cha dd (ee + 1) ll w rs → rs.Perm qs → (∀ ok V V', Val ok V t0 [] → Val ok V' t qs → Val ok (fun r b => V r b + V' r b) w rs) → P (.ch w rs)) : S_add [.ch t0 [], .ch t qs] P Ex := by
  have l := ht.len
  refine add_ok ⟨t0, t, [], qs, 1, 0, 0, 0, dd, ee, ll, dd, ee, rfl, h0, ht, .inl rfl, by omega, by omega, ?_, ?_, ?_, ?_, hD, by omega, fun w rs hw cw hp he => ?_⟩
  · rw [lackL_none]; omega
  · rw [lackL_self_nil]; exact Nat.le_refl _
  · rw [lackL_none]; omega
  · rw [lackL_self_nil]; exact Nat.le_refl _
  · have hp' : rs.Perm qs := by rw [lackL_none] at hp; exact hp
    exact h w rs ⟨hw, cw, by rw [hp'.length_eq]; exact l, fun p z => ht.sm p (hp'.mem_iff.mp z)⟩ hp' fun ok V V' hV hV' => Val.add hV hV' he hp
theorem mk_one {P : D → Prop} {Ex : Str → Prop} (h : ∀ u, Cha 0 0 0 u [] → (∀ ok, Val ok (fun _ _ => 1) u []) → P (.ch u [])) : S_Chance [.dT (mergeT [([0, 0], D.int 1)]), .tup []] P Ex := by
  refine mkC_ok (t := oneT 1) (d := 0) (e := 0) rfl pt_nil (oneT_raw (by decide)) (by omega) fun u qs hu cu eu hq => ?_
  have : qs = [] := hq.eq_nil
  subst this
  refine h u ⟨hu, cu, Nat.zero_le _, fun _ h => (by cases h)⟩ fun ok => ⟨fun _ _ _ _ h => (by cases h), fun r l _ => ?_⟩
  rw [eu, oneT_ev]
  simp [prodP]
def redM (w : Str) (a : Pg) (x y : Int) (r b : Int) : Rat := ((r + x : Int) : Rat) / ((r + b + (x + y) : Int) : Rat) * a.mean (r + (x + stp w)) (b + (y + xtr w))
def bluM (w : Str) (a : Pg) (x y : Int) (r b : Int) : Rat := ((b + y : Int) : Rat) / ((r + b + (x + y) : Int) : Rat) * a.mean (r + (x + xtr w)) (b + (y + stp w))
theorem mean_draw {w : Str} {a b : Pg} {x y : Int} (r l : Int) : (Pg.draw w a b).mean (r + x) (l + y) = 1 + redM w a x y r l + bluM w b x y r l := by
  simp only [Pg.mean, redM, bluM]
  rw [show r + l + (x + y) = r + x + (l + y) by omega, show r + (x + stp w) = r + x + stp w by omega, show l + (y + xtr w) = l + y + xtr w by omega, show r + (x + xtr w) = r + x + xtr w by omega, show l + (y + stp w) = l + y + stp w by omega]
structure AdV (N : Nat) (p : Pg) (x y : Int) (t : Tm) (ps : List Int) : Prop where
  cha : Cha (2 ^ N - 1) (12 * N + 20 * 2 ^ N) (2 ^ N - 1) t ps
  val : Val (fun r b => p.enough (r + b + (x + y))) (fun r b => p.mean (r + x) (b + y)) t ps
def S_all_draws (N : Nat) : Spec := fun ds P _ => ∃ (p : Pg) (x y : Int) (n : Nat), ds = [p.d, .int x, .int y] ∧ n ≤ N ∧ n ≤ 4 ∧ p.ok n = true ∧ x.natAbs + n ≤ 1000 ∧ y.natAbs + n ≤ 1000 ∧ (x + y).natAbs + n ≤ 1000 ∧ ∀ t ps, AdV n p x y t ps → P (.ch t ps)
theorem p_all_draws (N : Nat) (SR : Spec) (hr : ∀ ds P Ex, N ≠ 0 → S_all_draws (N - 1) ds P Ex → SR ds P Ex) : ∀ ds Q Ex, S_all_draws N ds Q Ex → t_all_draws S_Chance S_mul S_add S_nothing S_turned S_factor SR (startD 8 ds) (endsOf Q Ex) := by
  rintro _ Q Ex ⟨p, x, y, n, rfl, hn, h4, hp, hx, hy, hz, h⟩
  cases p with
  | mark w =>
    simp [t_all_draws, Pg.d]
    have n0 := nil_form (2 ^ n - 1) (12 * n + 20 * 2 ^ n)
    exact ⟨rfl, h [] [] ⟨⟨n0.1, n0.2, Nat.zero_le _, fun _ h => (by cases h)⟩, Val.nothing⟩⟩
  | draw w a b =>
    obtain ⟨k, rfl, hw, ha, hb⟩ := Pg.ok_draw hp
    have hk : k ≤ 3 := by omega
    have h8 := pow_le8 hk
    have hA := pow2_pos k
    have sx := sx_bd w
    simp [t_all_draws, Pg.d, iZip2]
    refine mk_one fun u0 h0 v0 => ?_
    rw [zip_rest]
    unfold forN
    simp [b1_all_draws, fOwn]
    refine ⟨w, "red", x, y, rfl, hw, ?_⟩
    rw [if_pos rfl]
    simp
    refine ⟨"red", x, y, rfl, by omega, by omega, by omega, fun u hu eu => ?_⟩
    refine hr _ _ _ (by omega) ⟨a, _, _, k, rfl, by omega, by omega, ha, by omega, by omega, by omega, fun t ps A1 => ?_⟩
    refine ⟨rfl, rfl, ?_⟩
    refine prod_ok hu A1.cha (by omega) (by omega) (by omega) fun v rs hv hp' he => ?_
    have hv : Cha (2 ^ k) (12 * k + 20 * 2 ^ k + 10) (2 ^ k) v rs := hv.mono (by omega) (by omega) (by omega)
    have vr : Val (fun r l => (Pg.draw w a b).enough (r + l + (x + y))) (redM w a x y) v rs := by
      refine (Val.mul (s := x + y) (F := fun r l => r + x) (ok := fun r l => (Pg.draw w a b).enough (r + l + (x + y))) A1.val (fun r l => by rw [eu, if_pos rfl]) (fun r l z => z.1) (fun r l z => ?_) he hp').congr (fun _ _ z => z) fun r l _ => rfl
      have := z.2.1
      rw [show r + l + (x + y) + (stp w + xtr w) = r + l + (x + stp w + (y + xtr w)) by omega] at this
      exact this
    refine ⟨rfl, rfl, ?_⟩
    refine sum1_ok h0 hv (by omega) (by omega) (by omega) (by omega) fun v2 rs2 h2 p2 q2 => ?_
    have v2' := q2 _ _ _ (v0 _) vr
    unfold forN
    simp [b1_all_draws, fOwn]
    refine ⟨w, "blue", x, y, rfl, hw, ?_⟩
    rw [if_neg blue_red]
    simp
    refine ⟨"blue", x, y, rfl, by omega, by omega, by omega, fun u hu eu => ?_⟩
    refine hr _ _ _ (by omega) ⟨b, _, _, k, rfl, by omega, by omega, hb, by omega, by omega, by omega, fun t ps A2 => ?_⟩
    refine ⟨rfl, rfl, ?_⟩
    refine prod_ok hu A2.cha (by omega) (by omega) (by omega) fun v3 rs3 h3 p3 he => ?_
    have vb : Val (fun r l => (Pg.draw w a b).enough (r + l + (x + y))) (bluM w b x y) v3 rs3 := by
      refine (Val.mul (s := x + y) (F := fun r l => l + y) (ok := fun r l => (Pg.draw w a b).enough (r + l + (x + y))) A2.val (fun r l => by rw [eu, if_neg blue_red]) (fun r l z => z.1) (fun r l z => ?_) he p3).congr (fun _ _ z => z) fun r l _ => rfl
      have := z.2.2
      rw [show r + l + (x + y) + (stp w + xtr w) = r + l + (x + xtr w + (y + stp w)) by omega] at this
      exact this
    refine ⟨rfl, rfl, ?_⟩
    refine sum_ok (s := x + y) (dd := 2 ^ k) (ee := 12 * k + 20 * 2 ^ k + 11) (ll := 2 ^ k) (h2.mono (by omega) (by omega) (by omega)) (h3.mono (by omega) (by omega) (by omega)) (p2.mem_iff.mpr (hp'.mem_iff.mpr (by simp))) (p3.mem_iff.mpr (by simp)) rfl (by omega) rfl (by omega) (by omega) fun v4 rs4 h4 q4 => ?_
    unfold forN
    simp
    refine h v4 rs4 ⟨h4.mono (by rw [Nat.pow_succ]; omega) (by rw [Nat.pow_succ]; omega) (by rw [Nat.pow_succ]; omega), (q4 _ _ _ v2' vb).congr (fun _ _ z => z) fun r l _ => ?_⟩
    rw [mean_draw]
/-! ### the chances, rising -/
theorem Pg.okm : ∀ {n m : Nat} {p : Pg}, n ≤ m → p.ok n = true → p.ok m = true
  | n, m, .mark w, _, h => by
    have := Pg.ok_mark h
    cases m <;> exact this
  | 0, _, .draw _ _ _, _, h => by cases h
  | n + 1, 0, .draw _ _ _, hl, _ => by omega
  | n + 1, m + 1, .draw w a b, hl, h => by
    have h : (wayB w && (a.ok n && b.ok n)) = true := h
    simp only [Bool.and_eq_true] at h
    show (wayB w && (a.ok m && b.ok m)) = true
    rw [h.1, Pg.okm (by omega) h.2.1, Pg.okm (by omega) h.2.2]
    rfl
theorem dict_pick {c0 : Cell} {kvs : List (Str × D)} {P : List (Str × D) → Prop} : ∀ (ms : List Str) (acc : List (Str × D)), ms.Nodup → (∀ m ∈ ms, m ∈ kvs.map (·.1)) → (∀ m ∈ ms, m ∉ acc.map (·.1)) → acc.length + ms.length ≤ 16777216 →
    P (acc ++ ms.map fun m => (m, (getS kvs m).getD .non)) → dcN (dgN 2) dYes (dVar 2) (dGetF (dVar 1) (dVar 2)) [c0, .fz (.dS kvs), .un] (ms.map D.str) acc P
  | [], acc, _, _, _, _, h => by
    rw [List.map_nil, List.append_nil] at h
    exact h
  | m :: ms, acc, nd, hin, hno, hl, h => by
    rw [List.length_cons] at hl
    obtain ⟨n1, n2⟩ := List.nodup_cons.mp nd
    obtain ⟨v, hv⟩ := getS_some (hin m List.mem_cons_self)
    rw [List.map_cons]
    unfold dcN
    simp
    refine ⟨v, hv, by omega, ?_⟩
    have e : putS acc m v = acc ++ [(m, v)] := by
      unfold putS
      rw [if_neg]
      intro z
      obtain ⟨q, hq, e⟩ := List.any_eq_true.mp z
      exact hno m List.mem_cons_self (List.mem_map.mpr ⟨q, hq, by simpa using e⟩)
    rw [e]
    refine dict_pick ms (acc ++ [(m, v)]) n2 (fun m hm => hin m (List.mem_cons_of_mem _ hm)) (fun x hx hm => ?_) (by rw [List.length_append]; simp; omega) ?_
    · rw [List.map_append] at hm
      rcases List.mem_append.mp hm with q | q
      · exact hno x (List.mem_cons_of_mem _ hx) q
      · have : x = m := by simpa using q
        exact n1 (by rw [← this]; exact hx)
    · rw [List.append_assoc]
      rw [List.map_cons, hv] at h
      exact h
theorem getS_pick {kvs : List (Str × D)} {m : Str} : ∀ {ms : List Str}, m ∈ ms → getS (ms.map fun m => (m, (getS kvs m).getD .non)) m = some ((getS kvs m).getD .non)
  | x :: ms, h => by
    unfold getS
    rw [List.map_cons, List.find?_cons]
    by_cases e : x = m
    · rw [decide_eq_true e, e]; rfl
    · rw [decide_eq_false e]
      exact getS_pick ((List.mem_cons.mp h).resolve_left fun z => e z.symm)
def S_found_chances : Spec := fun ds P _ => ∃ p : Pg, ds = [p.d] ∧ p.ok 4 = true ∧ ∀ kvs, AC 4 p 0 0 kvs → sortedS (kvs.map (·.1)) = true → P (.dS kvs)
theorem p_found_chances : ∀ ds Q Ex, S_found_chances ds Q Ex → t_found_chances (S_all_chances 4) (startD 3 ds) (endsOf Q Ex) := by
  rintro _ Q Ex ⟨p, rfl, hp, h⟩
  simp [t_found_chances]
  refine ⟨p, 0, 0, 4, rfl, Nat.le_refl _, Nat.le_refl _, hp, by decide, by decide, by decide, fun kvs A => ?_⟩
  have hl := A.len
  have hl2 := Pg.marks_len hp
  simp
  refine ⟨by omega, fun ys hy hs => ?_⟩
  have nd : ys.Nodup := hy.nodup_iff.mpr A.nd
  have hlen := hy.length_eq
  rw [List.length_map] at hlen
  refine dict_pick ys [] nd (fun m hm => hy.mem_iff.mp hm) (fun _ _ z => by cases z) (by simp; omega) ?_
  rw [List.nil_append]
  have ek : (ys.map fun m => (m, (getS kvs m).getD D.non)).map (·.1) = ys := by
    rw [List.map_map]
    exact List.map_id ys
  refine h _ ⟨by rw [ek]; exact nd, fun m => by rw [ek, hy.mem_iff, A.mem], fun m hm => ?_⟩ (by rw [ek]; exact hs)
  obtain ⟨d, hd, hv⟩ := A.val m hm
  refine ⟨d, ?_, hv⟩
  rw [getS_pick (hy.mem_iff.mpr ((A.mem m).mpr hm)), hd]
  rfl
def S_chances : Spec := fun ds P Ex => ∃ d, ds = [d] ∧ Kn 7 d ∧ if withinD 6 d = true then S_found_chances [d] P Ex else Ex "BadProgram"
theorem p_chances : ∀ ds Q Ex, S_chances ds Q Ex → t_chances S_check_program S_found_chances (startD 1 ds) (endsOf Q Ex) := by
  rintro _ Q Ex ⟨d, rfl, hk, h⟩
  simp [t_chances]
  refine ⟨d, rfl, hk, ?_⟩
  by_cases hw : withinD 6 d = true
  · rw [if_pos hw] at h ⊢
    exact h
  · rw [if_neg hw] at h ⊢
    exact h
theorem chances_ok {p : Pg} {P : D → Prop} {Ex : Str → Prop} (hp : p.ok 4 = true) (h : ∀ kvs, AC 4 p 0 0 kvs → sortedS (kvs.map (·.1)) = true → P (.dS kvs)) : S_chances [p.d] P Ex := by
  have h6 := Pg.okm (m := 6) (by decide) hp
  refine ⟨p.d, rfl, Pg.kn 7 (Pg.ok_fit h6), ?_⟩
  rw [Pg.within, h6, if_pos rfl]
  exact ⟨p, rfl, hp, h⟩
def S_mean_draws : Spec := fun ds P _ => ∃ p : Pg, ds = [p.d] ∧ p.ok 4 = true ∧ ∀ t ps, AdV 4 p 0 0 t ps → P (.ch t ps)
theorem p_mean_draws : ∀ ds Q Ex, S_mean_draws ds Q Ex → t_mean_draws S_check_program (S_all_draws 4) (startD 1 ds) (endsOf Q Ex) := by
  rintro _ Q Ex ⟨p, rfl, hp, h⟩
  simp [t_mean_draws]
  refine check_ok (Pg.okm (by decide) hp) ?_
  exact ⟨p, 0, 0, 4, rfl, Nat.le_refl _, Nat.le_refl _, hp, by decide, by decide, by decide, h⟩
end AU

/-! AuT3: the readings of the walks (printed by mkt3.py). -/
namespace AU
open PySem L2 PySem.Spec PyProof.Rows
def b1_walked (S_turned : Spec) (S_walked : Spec) (S_lowest : Spec) : DS := dIsOwn 3 (dAppend 3 (dTup (dCons (dOp fAdd (dTup (dCons (dVar 4) (dNil))) (dVar 9)) (dCons (dVar 10) (dCons (dCall S_lowest (dCons (dOp fMul (dVar 11) (dVar 6)) (dCons (dOp fMul (dVar 12) (dOp fAdd (dVar 1) (dVar 2))) (dNil)))) (dNil))))))
def b2_walked (S_turned : Spec) (S_walked : Spec) (S_lowest : Spec) : DS := dIfS (dTest (dOp fGt (dVar 6) (dC (.int 0)))) (dSeq (dAsg (dCall S_turned (dCons (dOp fIx (dVar 0) (dC (.int 1))) (dCons (dVar 4) (dCons (dVar 1) (dCons (dVar 2) (dNil)))))) (dgTup (dgCons (dgN 7) (dgCons (dgN 8) (dgNil))))) (dFor (iSeq (dCall S_walked (dCons (dVar 5) (dCons (dVar 7) (dCons (dVar 8) (dNil)))))) (dgTup (dgCons (dgN 9) (dgCons (dgN 10) (dgCons (dgTup (dgCons (dgN 11) (dgCons (dgN 12) (dgNil)))) (dgNil))))) (b1_walked S_turned S_walked S_lowest))) (dNext)
def t_walked (S_turned : Spec) (S_walked : Spec) (S_lowest : Spec) : DS := dSeq (dIfS (dTest (dOp fEq (dOp fIx (dVar 0) (dC (.int 0))) (dC (.str "mark")))) (dRet (dLst (dCons (dTup (dCons (dTup (dNil)) (dCons (dOp fIx (dVar 0) (dC (.int 1))) (dCons (dTup (dCons (dC (.int 1)) (dCons (dC (.int 1)) (dNil)))) (dNil))))) (dNil)))) (dNext)) (dSeq (dOwn 3 (dLst (dNil))) (dSeq (dFor (iZip3 (dCons (dC (.tup [(.str "red"), (.str "blue")])) (dCons (dSl (dVar 0) (dPart (dC (.int 2))) (dNoP)) (dCons (dTup (dCons (dVar 1) (dCons (dVar 2) (dNil)))) (dNil))))) (dgTup (dgCons (dgN 4) (dgCons (dgN 5) (dgCons (dgN 6) (dgNil))))) (b2_walked S_turned S_walked S_lowest)) (dFz 3 (dRet (dVar 3)))))
def t_walk (S_check_program : Spec) (S_check_urn : Spec) (S_walked : Spec) : DS := dSeq (dDrop (dCall S_check_program (dCons (dVar 0) (dNil)))) (dSeq (dDrop (dCall S_check_urn (dCons (dVar 0) (dCons (dVar 1) (dCons (dVar 2) (dNil)))))) (dRet (dCall S_walked (dCons (dVar 0) (dCons (dVar 1) (dCons (dVar 2) (dNil)))))))
def t__law_tree (S__law_program : Spec) (S__law_ways : Spec) (S__law_draw : Spec) : DS := dSeq (dSet 2 (dCall S__law_program (dCons (dVar 0) (dCons (dVar 1) (dNil))))) (dSeq (dIfS (dTest (dOp fEq (dOp fIx (dVar 2) (dC (.int 0))) (dC (.str "mark")))) (dSeq (dSet 3 (dOp fIx (dCall S__law_ways dNil) (dCall S__law_draw (dCons (dVar 0) (dCons (dC (.int 4)) (dNil)))))) (dRet (dTup (dCons (dC (.str "draw")) (dCons (dVar 3) (dCons (dCall S__law_program (dCons (dVar 0) (dCons (dOp fSub (dVar 1) (dC (.int 1))) (dNil)))) (dCons (dCall S__law_program (dCons (dVar 0) (dCons (dOp fSub (dVar 1) (dC (.int 1))) (dNil)))) (dNil)))))))) (dNext)) (dRet (dVar 2)))
def t__law_behind : DS := dSeq (dIfS (dTest (dOp fEq (dVar 0) (dC (.str "aside")))) (dRet (dLst (dCons (dOp fSub (dVar 2) (dB (on1 fInt) (dCons (dOp fEq (dVar 1) (dC (.str "red"))) (dNil)))) (dCons (dOp fSub (dVar 3) (dB (on1 fInt) (dCons (dOp fEq (dVar 1) (dC (.str "blue"))) (dNil)))) (dNil))))) (dNext)) (dSeq (dIfS (dTest (dOp fEq (dVar 0) (dC (.str "back")))) (dRet (dLst (dCons (dVar 2) (dCons (dVar 3) (dNil))))) (dNext)) (dSeq (dSet 4 (dOp fEq (dVar 0) (dC (.str "more")))) (dRet (dLst (dCons (dOp fAdd (dVar 2) (dB (on1 fInt) (dCons (dOp fEq (dOp fEq (dVar 1) (dC (.str "red"))) (dVar 4)) (dNil)))) (dCons (dOp fAdd (dVar 3) (dB (on1 fInt) (dCons (dOp fEq (dOp fEq (dVar 1) (dC (.str "blue"))) (dVar 4)) (dNil)))) (dNil)))))))
def t__law_need (S__law_need : Spec) : DS := dSeq (dIfS (dTest (dOp fEq (dOp fIx (dVar 0) (dC (.int 0))) (dC (.str "mark")))) (dRet (dC (.int 0))) (dNext)) (dSeq (dSet 2 (dGetF (dDisp [(dC (.str "back"), dC (.int 0)), (dC (.str "aside"), dUn fNeg (dC (.int 1))), (dC (.str "more"), dC (.int 1)), (dC (.str "other"), dC (.int 1))]) (dOp fIx (dVar 0) (dC (.int 1))))) (dRet (dB fMax3 (dCons (dOp fSub (dC (.int 1)) (dVar 1)) (dCons (dCall S__law_need (dCons (dOp fIx (dVar 0) (dC (.int 2))) (dCons (dOp fAdd (dVar 1) (dVar 2)) (dNil)))) (dCons (dCall S__law_need (dCons (dOp fIx (dVar 0) (dC (.int 3))) (dCons (dOp fAdd (dVar 1) (dVar 2)) (dNil)))) (dNil)))))))
def b1__law_common : DB := dTest (dOp fNe (dVar 1) (dC (.int 0)))
def b2__law_common : DS := dSeq (dSet 2 (dOp fMod (dVar 0) (dVar 1))) (dSeq (dSet 0 (dVar 1)) (dSet 1 (dVar 2)))
def t__law_common : DS := dSeq (dWhile (b1__law_common) (b2__law_common)) (dRet (dB (on1 fAbs) (dCons (dVar 0) (dNil))))
def t__law_low (S__law_common : Spec) : DS := dSeq (dSet 2 (dCall S__law_common (dCons (dVar 0) (dCons (dVar 1) (dNil))))) (dRet (dTup (dCons (dOp fDiv (dVar 0) (dVar 2)) (dCons (dOp fDiv (dVar 1) (dVar 2)) (dNil)))))
def b1__law_walk (S__law_behind : Spec) (S__law_walk : Spec) (S__law_low : Spec) : DS := dSeq (dSet 11 (dCall S__law_low (dCons (dOp fMul (dOp fIx (dVar 10) (dC (.int 0))) (dVar 5)) (dCons (dOp fMul (dOp fIx (dVar 10) (dC (.int 1))) (dOp fAdd (dVar 1) (dVar 2))) (dNil))))) (dIsOwn 3 (dAppend 3 (dTup (dCons (dOp fAdd (dTup (dCons (dVar 4) (dNil))) (dVar 8)) (dCons (dVar 9) (dCons (dVar 11) (dNil)))))))
def b2__law_walk (S__law_behind : Spec) (S__law_walk : Spec) (S__law_low : Spec) : DS := dSeq (dSet 5 (dOp fIx (dLst (dCons (dVar 2) (dCons (dVar 1) (dNil)))) (dB (on1 fInt) (dCons (dOp fEq (dVar 4) (dC (.str "red"))) (dNil))))) (dIfS (dTest (dOp fGt (dVar 5) (dC (.int 0)))) (dSeq (dAsg (dCall S__law_behind (dCons (dOp fIx (dVar 0) (dC (.int 1))) (dCons (dVar 4) (dCons (dVar 1) (dCons (dVar 2) (dNil)))))) (dgLst (dgCons (dgN 6) (dgCons (dgN 7) (dgNil))))) (dFor (iSeq (dCall S__law_walk (dCons (dOp fIx (dVar 0) (dOp fAdd (dC (.int 2)) (dB (on1 fInt) (dCons (dOp fEq (dVar 4) (dC (.str "blue"))) (dNil))))) (dCons (dVar 6) (dCons (dVar 7) (dNil)))))) (dgTup (dgCons (dgN 8) (dgCons (dgN 9) (dgCons (dgN 10) (dgNil))))) (b1__law_walk S__law_behind S__law_walk S__law_low))) (dNext))
def t__law_walk (S__law_behind : Spec) (S__law_walk : Spec) (S__law_low : Spec) : DS := dSeq (dIfS (dTest (dOp fEq (dOp fIx (dVar 0) (dC (.int 0))) (dC (.str "mark")))) (dRet (dLst (dCons (dTup (dCons (dTup (dNil)) (dCons (dOp fIx (dVar 0) (dC (.int 1))) (dCons (dTup (dCons (dC (.int 1)) (dCons (dC (.int 1)) (dNil)))) (dNil))))) (dNil)))) (dNext)) (dSeq (dOwn 3 (dLst (dNil))) (dSeq (dFor (iSeq (dLst (dCons (dC (.str "red")) (dCons (dC (.str "blue")) (dNil))))) (dgN 4) (b2__law_walk S__law_behind S__law_walk S__law_low)) (dFz 3 (dRet (dVar 3)))))
def t__law_sum (S__law_low : Spec) : DS := dRet (dCall S__law_low (dCons (dOp fAdd (dOp fMul (dOp fIx (dVar 0) (dC (.int 0))) (dOp fIx (dVar 1) (dC (.int 1)))) (dOp fMul (dOp fIx (dVar 1) (dC (.int 0))) (dOp fIx (dVar 0) (dC (.int 1))))) (dCons (dOp fMul (dOp fIx (dVar 0) (dC (.int 1))) (dOp fIx (dVar 1) (dC (.int 1)))) (dNil))))
def b1__law_marks (S__law_walk : Spec) (S__law_sum : Spec) : DS := dPutO 3 (dVar 5) (dCall S__law_sum (dCons (dGetO 3 (dVar 5) (dTup (dCons (dC (.int 0)) (dCons (dC (.int 1)) (dNil))))) (dCons (dVar 6) (dNil))))
def t__law_marks (S__law_walk : Spec) (S__law_sum : Spec) : DS := dSeq (dOwn 3 (dC (.dS []))) (dSeq (dFor (iSeq (dCall S__law_walk (dCons (dVar 0) (dCons (dVar 1) (dCons (dVar 2) (dNil)))))) (dgTup (dgCons (dgN 4) (dgCons (dgN 5) (dgCons (dgN 6) (dgNil))))) (b1__law_marks S__law_walk S__law_sum)) (dFz 3 (dRet (dVar 3))))
def t__law_urn (S__law_need : Spec) (S__law_draw : Spec) : DS := dSeq (dSet 3 (dOp fAdd (dB fMax2 (dCons (dCall S__law_need (dCons (dVar 1) (dCons (dC (.int 0)) (dNil)))) (dCons (dC (.int 1)) (dNil)))) (dCall S__law_draw (dCons (dVar 0) (dCons (dVar 2) (dNil)))))) (dSeq (dSet 4 (dCall S__law_draw (dCons (dVar 0) (dCons (dOp fAdd (dVar 3) (dC (.int 1))) (dNil))))) (dRet (dLst (dCons (dVar 4) (dCons (dOp fSub (dVar 3) (dVar 4)) (dNil))))))
def b1__law_mean (S__law_walk : Spec) (S__law_sum : Spec) : DS := dSet 3 (dCall S__law_sum (dCons (dVar 3) (dCons (dTup (dCons (dOp fMul (dB (on1 fLen) (dCons (dVar 4) (dNil))) (dOp fIx (dVar 6) (dC (.int 0)))) (dCons (dOp fIx (dVar 6) (dC (.int 1))) (dNil)))) (dNil))))
def t__law_mean (S__law_walk : Spec) (S__law_sum : Spec) : DS := dSeq (dSet 3 (dTup (dCons (dC (.int 0)) (dCons (dC (.int 1)) (dNil))))) (dSeq (dFor (iSeq (dCall S__law_walk (dCons (dVar 0) (dCons (dVar 1) (dCons (dVar 2) (dNil)))))) (dgTup (dgCons (dgN 4) (dgCons (dgN 5) (dgCons (dgN 6) (dgNil))))) (b1__law_mean S__law_walk S__law_sum)) (dRet (dVar 3)))
def t_check_scheme (S_is_whole : Spec) : DS := dSeq (dIfS (dOr (dNot (dTru (dOn (fIsi "tuple") (dVar 0)))) (dTest (dOp fNe (dB (on1 fLen) (dCons (dVar 0) (dNil))) (dC (.int 4))))) (dRaise "BadScheme") (dNext)) (dIfS (dNot (dTru (dB (on1 fAll) (dCons (dLc (iSeq (dVar 0)) (dgN 1) (dYes) (dAndV (dCall S_is_whole (dCons (dVar 1) (dNil))) (dChain fLe fLe (dC (.int 0)) (dVar 1) (dC (.int 5)))) [1]) (dNil))))) (dRaise "BadScheme") (dNext))
def t_check_row : DS := dSeq (dIfS (dOr (dNot (dTru (dOn (fIsi "tuple") (dVar 0)))) (dTest (dOp fGt (dB (on1 fLen) (dCons (dVar 0) (dNil))) (dC (.int 8))))) (dRaise "BadScheme") (dNext)) (dIfS (dNot (dTru (dB (on1 fAll) (dCons (dLc (iSeq (dVar 0)) (dgN 1) (dYes) (dAndV (dOn (fIsi "str") (dVar 1)) (dOp fIn (dVar 1) (dC (.tup [(.str "red"), (.str "blue")])))) [1]) (dNil))))) (dRaise "BadScheme") (dNext))
def b1_shown (S_Chance : Spec) (S_o__mul__ : Spec) (S_factor : Spec) : DS := dSeq (dSet 2 (dOp (fOwn S_o__mul__) (dVar 2) (dCall S_factor (dCons (dVar 3) (dCons (dVar 4) (dCons (dVar 5) (dNil))))))) (dSeq (dSet 6 (dIf (dTest (dOp fEq (dVar 3) (dC (.str "red")))) (dC (.int 0)) (dC (.int 2)))) (dPar 4 5 (dCons (dOp fAdd (dVar 4) (dOp fIx (dVar 0) (dVar 6))) (dCons (dOp fAdd (dVar 5) (dOp fIx (dVar 0) (dOp fAdd (dVar 6) (dC (.int 1))))) (dNil)))))
def t_shown (S_Chance : Spec) (S_o__mul__ : Spec) (S_factor : Spec) : DS := dSeq (dSet 2 (dCall S_Chance (dCons (dDispT [(dTup (dCons (dC (.int 0)) (dCons (dC (.int 0)) (dNil))), dC (.int 1))]) (dCons (dTup (dNil)) (dNil))))) (dSeq (dAsg (dTup (dCons (dC (.int 0)) (dCons (dC (.int 0)) (dNil)))) (dgTup (dgCons (dgN 4) (dgCons (dgN 5) (dgNil))))) (dSeq (dFor (iSeq (dVar 1)) (dgN 3) (b1_shown S_Chance S_o__mul__ S_factor)) (dRet (dVar 2))))
def t_row_chance (S_check_scheme : Spec) (S_check_row : Spec) (S_shown : Spec) : DS := dSeq (dDrop (dCall S_check_scheme (dCons (dVar 0) (dNil)))) (dSeq (dDrop (dCall S_check_row (dCons (dVar 1) (dNil)))) (dRet (dCall S_shown (dCons (dVar 0) (dCons (dVar 1) (dNil))))))
def t_both_orders (S_shown : Spec) : DS := dRet (dTup (dCons (dCall S_shown (dCons (dVar 0) (dCons (dTup (dCons (dC (.str "red")) (dCons (dC (.str "blue")) (dNil)))) (dNil)))) (dCons (dCall S_shown (dCons (dVar 0) (dCons (dTup (dCons (dC (.str "blue")) (dCons (dC (.str "red")) (dNil)))) (dNil)))) (dNil))))
def t_is_orderless (S_o__eq__ : Spec) (S_check_scheme : Spec) (S_both_orders : Spec) : DS := dSeq (dDrop (dCall S_check_scheme (dCons (dVar 0) (dNil)))) (dSeq (dAsg (dCall S_both_orders (dCons (dVar 0) (dNil))) (dgTup (dgCons (dgN 1) (dgCons (dgN 2) (dgNil))))) (dRet (dOp (fOwn S_o__eq__) (dVar 1) (dVar 2))))
def b1_order_shown (S_m_at : Spec) (S_o__eq__ : Spec) (S_check_scheme : Spec) (S_both_orders : Spec) : DS := dIfS (dTest (dOp fNe (dMeth S_m_at (dVar 2) (dCons (dVar 4) (dCons (dOp fSub (dVar 1) (dVar 4)) (dNil)))) (dMeth S_m_at (dVar 3) (dCons (dVar 4) (dCons (dOp fSub (dVar 1) (dVar 4)) (dNil)))))) (dRet (dTup (dCons (dVar 4) (dCons (dOp fSub (dVar 1) (dVar 4)) (dNil))))) (dNext)
def b2_order_shown (S_m_at : Spec) (S_o__eq__ : Spec) (S_check_scheme : Spec) (S_both_orders : Spec) : DB := dTru (dC (.bl true))
def b3_order_shown (S_m_at : Spec) (S_o__eq__ : Spec) (S_check_scheme : Spec) (S_both_orders : Spec) : DS := dSeq (dFor (iRange1 (dCons (dOp fAdd (dVar 1) (dC (.int 1))) (dNil))) (dgN 4) (b1_order_shown S_m_at S_o__eq__ S_check_scheme S_both_orders)) (dAug 1 (dC (.int 1)) (fun a b => a + b))
def t_order_shown (S_m_at : Spec) (S_o__eq__ : Spec) (S_check_scheme : Spec) (S_both_orders : Spec) : DS := dSeq (dDrop (dCall S_check_scheme (dCons (dVar 0) (dNil)))) (dSeq (dAsg (dCall S_both_orders (dCons (dVar 0) (dNil))) (dgTup (dgCons (dgN 2) (dgCons (dgN 3) (dgNil))))) (dSeq (dIfS (dTest (dOp (fOwn S_o__eq__) (dVar 2) (dVar 3))) (dRet (dC .non)) (dNext)) (dSeq (dSet 1 (dC (.int 1))) (dWhile (b2_order_shown S_m_at S_o__eq__ S_check_scheme S_both_orders) (b3_order_shown S_m_at S_o__eq__ S_check_scheme S_both_orders)))))
def b1__law_rows : DS := dSet 3 (dOp fAdd (dVar 3) (dLst (dCons (dOp fAdd (dVar 4) (dTup (dCons (dC (.str "red")) (dNil)))) (dCons (dOp fAdd (dVar 4) (dTup (dCons (dC (.str "blue")) (dNil)))) (dNil)))))
def b2__law_rows : DS := dSeq (dSet 3 (dLst (dNil))) (dSeq (dFor (iSeq (dVar 1)) (dgN 4) (b1__law_rows)) (dSet 1 (dVar 3)))
def t__law_rows : DS := dSeq (dSet 1 (dLst (dCons (dTup (dNil)) (dNil)))) (dSeq (dFor (iRange1 (dCons (dVar 0) (dNil))) (dgN 2) (b2__law_rows)) (dRet (dVar 1)))
def b1__law_pair : DS := dSeq (dSet 4 (dOp fMul (dVar 4) (dOp fIx (dLst (dCons (dVar 3) (dCons (dVar 2) (dNil)))) (dB (on1 fInt) (dCons (dOp fEq (dVar 6) (dC (.str "red"))) (dNil)))))) (dSeq (dSet 5 (dOp fMul (dVar 5) (dOp fAdd (dVar 2) (dVar 3)))) (dSeq (dSet 7 (dOp fMul (dC (.int 2)) (dB (on1 fInt) (dCons (dOp fEq (dVar 6) (dC (.str "blue"))) (dNil))))) (dSeq (dSet 2 (dOp fAdd (dVar 2) (dOp fIx (dVar 0) (dVar 7)))) (dSet 3 (dOp fAdd (dVar 3) (dOp fIx (dVar 0) (dOp fAdd (dVar 7) (dC (.int 1)))))))))
def t__law_pair : DS := dSeq (dSet 4 (dC (.int 1))) (dSeq (dSet 5 (dC (.int 1))) (dSeq (dFor (iSeq (dVar 1)) (dgN 6) (b1__law_pair)) (dRet (dLst (dCons (dVar 4) (dCons (dVar 5) (dNil)))))))
def t__law_unlike : DS := dRet (dOp fNe (dOp fMul (dOp fIx (dVar 0) (dC (.int 0))) (dOp fIx (dVar 1) (dC (.int 1)))) (dOp fMul (dOp fIx (dVar 1) (dC (.int 0))) (dOp fIx (dVar 0) (dC (.int 1)))))
def b1__law_matters (S__law_rows : Spec) (S__law_unlike : Spec) (S__law_pair : Spec) : DS := dSeq (dSet 5 (dB (on1 fLen) (dCons (dLc (iSeq (dVar 4)) (dgN 7) (dTest (dOp fEq (dVar 7) (dC (.str "red")))) (dVar 7) [7]) (dNil)))) (dSeq (dSet 6 (dOp fAdd (dOp fRep (dTup (dCons (dC (.str "red")) (dNil))) (dVar 5)) (dOp fRep (dTup (dCons (dC (.str "blue")) (dNil))) (dOp fSub (dVar 3) (dVar 5))))) (dIfS (dTru (dCall S__law_unlike (dCons (dCall S__law_pair (dCons (dVar 0) (dCons (dVar 4) (dCons (dVar 1) (dCons (dVar 2) (dNil)))))) (dCons (dCall S__law_pair (dCons (dVar 0) (dCons (dVar 6) (dCons (dVar 1) (dCons (dVar 2) (dNil)))))) (dNil))))) (dRet (dC (.bl true))) (dNext)))
def b2__law_matters (S__law_rows : Spec) (S__law_unlike : Spec) (S__law_pair : Spec) : DS := dFor (iSeq (dCall S__law_rows (dCons (dVar 3) (dNil)))) (dgN 4) (b1__law_matters S__law_rows S__law_unlike S__law_pair)
def t__law_matters (S__law_rows : Spec) (S__law_unlike : Spec) (S__law_pair : Spec) : DS := dSeq (dFor (iRange2 (dCons (dC (.int 2)) (dCons (dC (.int 5)) (dNil)))) (dgN 3) (b2__law_matters S__law_rows S__law_unlike S__law_pair)) (dRet (dC (.bl false)))
def b1__law_least (S__law_pair : Spec) (S__law_unlike : Spec) : DS := dSeq (dSet 3 (dCall S__law_pair (dCons (dVar 0) (dCons (dTup (dCons (dC (.str "red")) (dCons (dC (.str "blue")) (dNil)))) (dCons (dVar 2) (dCons (dOp fSub (dVar 1) (dVar 2)) (dNil))))))) (dSeq (dSet 4 (dCall S__law_pair (dCons (dVar 0) (dCons (dTup (dCons (dC (.str "blue")) (dCons (dC (.str "red")) (dNil)))) (dCons (dVar 2) (dCons (dOp fSub (dVar 1) (dVar 2)) (dNil))))))) (dIfS (dTru (dCall S__law_unlike (dCons (dVar 3) (dCons (dVar 4) (dNil))))) (dRet (dTup (dCons (dVar 2) (dCons (dOp fSub (dVar 1) (dVar 2)) (dNil))))) (dNext)))
def b2__law_least (S__law_pair : Spec) (S__law_unlike : Spec) : DS := dFor (iRange1 (dCons (dOp fAdd (dVar 1) (dC (.int 1))) (dNil))) (dgN 2) (b1__law_least S__law_pair S__law_unlike)
def t__law_least (S__law_pair : Spec) (S__law_unlike : Spec) : DS := dSeq (dFor (iRange2 (dCons (dC (.int 1)) (dCons (dC (.int 8)) (dNil)))) (dgN 1) (b2__law_least S__law_pair S__law_unlike)) (dRet (dC .non))
end AU

/-! AuPk: plain laws: walks. -/
namespace AU
open PySem L2 PySem.Spec PyProof.Rows
abbrev Row := List Str × Str × Rat
def stepR (c : Str) (many n : Int) (q : Row) : Row := (c :: q.1, q.2.1, Rat.divInt (q.2.2.num * many) ((q.2.2.den : Int) * n))
/-- all rows of colours with their marks and chances above 0 -/
def Pg.rows : Pg → Int → Int → List Row
  | .mark w, _, _ => [([], w, 1)]
  | .draw w a b, r, l => (if 0 < r then (a.rows (r + stp w) (l + xtr w)).map (stepR "red" r (r + l)) else []) ++ (if 0 < l then (b.rows (r + xtr w) (l + stp w)).map (stepR "blue" l (r + l)) else [])
def rowD (q : Row) : D := .tup [.tup (q.1.map D.str), .str q.2.1, fr q.2.2]
structure RowOk (n : Nat) (q : Row) : Prop where
  sz : szR (20 * n + 1) q.2.2
  ln : q.1.length ≤ n
theorem szR_one (n : Nat) : szR (n + 1) 1 := by
  refine ⟨?_, ?_⟩
  · show (1 : Int).natAbs < 2 ^ (n + 1)
    have := pow2_pos n
    rw [Nat.pow_succ]
    show 1 < _
    omega
  · show 1 < 2 ^ (n + 1)
    have := pow2_pos n
    rw [Nat.pow_succ]
    omega
theorem step_szR {s : Nat} {q : Rat} {m n : Int} (h : szR s q) (hm : bd 20 m) (hn : bd 20 n) (hn0 : n ≠ 0) : bd (s + 20) (q.num * m) ∧ bd (s + 20) ((q.den : Int) * n) ∧ (q.den : Int) * n ≠ 0 ∧ szR (s + 20) (Rat.divInt (q.num * m) ((q.den : Int) * n)) := by
  have h1 := h.1.mul hm
  have h2 := h.den.mul hn
  have h3 : (q.den : Int) * n ≠ 0 := Int.mul_ne_zero (by have := q.den_pos; omega) hn0
  exact ⟨h1, h2, h3, szR.of h1 h2 h3⟩
theorem bd20 {x : Int} (h0 : 0 ≤ x) (h : x ≤ 1000000) : bd 20 x := by unfold bd; omega
theorem Pg.rows_ok : ∀ {n : Nat} {p : Pg} {r l : Int}, p.ok n = true → 0 ≤ r → 0 ≤ l → r + l + n ≤ 1000000 → ∀ q ∈ p.rows r l, RowOk n q
  | n, .mark w, r, l, _, _, _, _, q, hq => by
    have e : q = ([], w, 1) := List.mem_singleton.mp hq
    subst e
    exact ⟨szR_one _, Nat.zero_le _⟩
  | 0, .draw _ _ _, _, _, h, _, _, _, _, _ => by cases h
  | n + 1, .draw w a b, r, l, h, hr, hl, hb, q, hq => by
    have h : (wayB w && (a.ok n && b.ok n)) = true := h
    simp only [Bool.and_eq_true] at h
    have sx := sx_bd w
    have go : ∀ (c : Str) (many : Int) (q : Row), RowOk n q → 0 < many → many ≤ r + l → RowOk (n + 1) (stepR c many (r + l) q) := fun c many q ho h0 hm => by
      have z := step_szR ho.sz (bd20 (show 0 ≤ many by omega) (by omega)) (bd20 (show 0 ≤ r + l by omega) (by omega)) (by omega)
      exact ⟨z.2.2.2.mono (by omega), by show (c :: q.1).length ≤ _; rw [List.length_cons]; have := ho.ln; omega⟩
    unfold Pg.rows at hq
    rcases List.mem_append.mp hq with hq | hq
    · split at hq
      · rename_i h0
        obtain ⟨q', hq', rfl⟩ := List.mem_map.mp hq
        exact go _ _ _ (Pg.rows_ok h.2.1 (by omega) (by omega) (by omega) q' hq') h0 (by omega)
      · cases hq
    · split at hq
      · rename_i h0
        obtain ⟨q', hq', rfl⟩ := List.mem_map.mp hq
        exact go _ _ _ (Pg.rows_ok h.2.2 (by omega) (by omega) (by omega) q' hq') h0 (by omega)
      · cases hq
theorem Pg.rows_len : ∀ {n : Nat} {p : Pg} {r l : Int}, p.ok n = true → (p.rows r l).length ≤ 2 ^ n
  | n, .mark w, _, _, _ => by show 1 ≤ _; exact pow2_pos n
  | 0, .draw _ _ _, _, _, h => by cases h
  | n + 1, .draw w a b, r, l, h => by
    have h : (wayB w && (a.ok n && b.ok n)) = true := h
    simp only [Bool.and_eq_true] at h
    have h1 := Pg.rows_len (r := r + stp w) (l := l + xtr w) h.2.1
    have h2 := Pg.rows_len (r := r + xtr w) (l := l + stp w) h.2.2
    unfold Pg.rows
    rw [List.length_append, Nat.pow_succ]
    split <;> split <;> simp <;> omega
def S_walked (N : Nat) : Spec := fun ds P _ => ∃ (p : Pg) (r l : Int) (n : Nat), ds = [p.d, .int r, .int l] ∧ n ≤ N ∧ n ≤ 6 ∧ p.ok n = true ∧ 0 ≤ r ∧ 0 ≤ l ∧ r + l + n ≤ 1000000 ∧ P (.lst ((p.rows r l).map rowD))
theorem walked_loop {S1 S2 : Spec} {c : Str} {many r l : Int} {c0 c5 c7 c8 : Cell} {k : EndsD} {n : Nat} (h0 : 0 < many) (hm : many ≤ r + l) (hrl : r + l ≤ 1000000) (hn : n ≤ 6) : ∀ (rows : List Row) (found : List D) (c9 c10 c11 c12 : Cell), (∀ q ∈ rows, RowOk n q) → found.length + rows.length ≤ 16777216 →
    (∀ c9 c10 c11 c12, k.nx [c0, .fz (.int r), .fz (.int l), .ow (.lst (found ++ (rows.map (stepR c many (r + l))).map rowD)), .fz (.str c), c5, .fz (.int many), c7, c8, c9, c10, c11, c12]) →
    forN (dgTup (dgCons (dgN 9) (dgCons (dgN 10) (dgCons (dgTup (dgCons (dgN 11) (dgCons (dgN 12) dgNil))) dgNil)))) (b1_walked S1 S2 S_lowest) (rows.map rowD) [c0, .fz (.int r), .fz (.int l), .ow (.lst found), .fz (.str c), c5, .fz (.int many), c7, c8, c9, c10, c11, c12] k
  | [], found, c9, c10, c11, c12, _, _, h => by
    have h := h c9 c10 c11 c12
    rw [List.map_nil, List.map_nil, List.append_nil] at h
    exact h
  | q :: rows, found, c9, c10, c11, c12, ho, hl, h => by
    rw [List.length_cons] at hl
    have hq := ho q List.mem_cons_self
    have z := step_szR hq.sz (bd20 (show 0 ≤ many by omega) (by omega)) (bd20 (show 0 ≤ r + l by omega) (by omega)) (by omega)
    have m1 : IntMulOk q.2.2.num many := hq.sz.1.ok (bd20 (show 0 ≤ many by omega) (by omega)) (by omega)
    have m2 : IntMulOk (q.2.2.den : Int) (r + l) := hq.sz.den.ok (bd20 (show 0 ≤ r + l by omega) (by omega)) (by omega)
    have hln := hq.ln
    rw [List.map_cons]
    unfold forN
    simp [rowD, fr, b1_walked]
    refine ⟨by omega, m1, m2, ?_⟩
    refine ⟨_, _, rfl, z.2.2.1, z.1.mono (by omega), z.2.1.mono (by omega), ?_⟩
    refine ⟨by omega, ?_⟩
    have e : D.tup [D.tup (D.str c :: q.1.map D.str), D.str q.2.1, fr (Rat.divInt (q.2.2.num * many) ((q.2.2.den : Int) * (r + l)))] = rowD (stepR c many (r + l) q) := rfl
    rw [e]
    refine walked_loop (S1 := S1) (S2 := S2) h0 hm hrl hn rows (found ++ [rowD (stepR c many (r + l) q)]) _ _ _ _ (fun x hx => ho x (List.mem_cons_of_mem _ hx)) (by rw [List.length_append]; simp; omega) fun c9 c10 c11 c12 => ?_
    rw [List.append_assoc]
    exact h c9 c10 c11 c12
theorem zip3_rest (w a b r l : D) : zip3D [.str "red", .str "blue"] (cutD [.str "draw", w, a, b] (some 2) none) [r, l] = [.tup [.str "red", a, r], .tup [.str "blue", b, l]] := rfl
theorem rest_len (w a b : D) : (cutD [.str "draw", w, a, b] (some 2) none).length = 2 := rfl
theorem p_walked (N : Nat) (SR : Spec) (hr : ∀ ds P Ex, N ≠ 0 → S_walked (N - 1) ds P Ex → SR ds P Ex) : ∀ ds Q Ex, S_walked N ds Q Ex → t_walked S_turned SR S_lowest (startD 13 ds) (endsOf Q Ex) := by
  rintro _ Q Ex ⟨p, r, l, n, rfl, hn, h6, hp, h0, h1, hb, h⟩
  cases p with
  | mark w =>
    simp [t_walked, Pg.d]
    exact h
  | draw w a b =>
    obtain ⟨k, rfl, hw, ha, hb'⟩ := Pg.ok_draw hp
    have sx := sx_bd w
    have la := Pg.rows_len (r := r + stp w) (l := l + xtr w) ha
    have lb := Pg.rows_len (r := r + xtr w) (l := l + stp w) hb'
    have k64 : 2 ^ k ≤ 64 := Nat.le_trans (Nat.pow_le_pow_right (by decide) (show k ≤ 6 by omega)) (by decide)
    simp [t_walked, Pg.d, iZip3]
    rw [zip3_rest]
    refine ⟨by rw [rest_len], ?_⟩
    unfold Pg.rows at h
    rw [List.map_append] at h
    -- what follows blue
    have blue : ∀ (kk : EndsD) (found : List D) (c7 c8 c9 c10 c11 c12 : Cell) (c4 c5 c6 : Cell), found.length ≤ 64 → (∀ c4 c5 c6 c7 c8 c9 c10 c11 c12, kk.nx [.fz (.tup [.str "draw", .str w, a.d, b.d]), .fz (.int r), .fz (.int l), .ow (.lst (found ++ (if 0 < l then (b.rows (r + xtr w) (l + stp w)).map (stepR "blue" l (r + l)) else []).map rowD)), c4, c5, c6, c7, c8, c9, c10, c11, c12]) → forN (dgTup (dgCons (dgN 4) (dgCons (dgN 5) (dgCons (dgN 6) dgNil)))) (b2_walked S_turned SR S_lowest) [.tup [.str "blue", b.d, .int l]] [.fz (.tup [.str "draw", .str w, a.d, b.d]), .fz (.int r), .fz (.int l), .ow (.lst found), c4, c5, c6, c7, c8, c9, c10, c11, c12] kk := by
      intro kk found c7 c8 c9 c10 c11 c12 c4 c5 c6 hf hQ
      unfold forN
      simp [b2_walked]
      by_cases hl : 0 < l
      · rw [if_pos hl]
        rw [if_pos hl] at hQ
        refine ⟨w, "blue", r, l, rfl, hw, ?_⟩
        rw [if_neg blue_red]
        simp
        refine hr _ _ _ (by omega) ⟨b, _, _, k, rfl, by omega, by omega, hb', by omega, by omega, by omega, ?_⟩
        simp
        refine walked_loop (n := k) hl (by omega) (by omega) (by omega) _ found _ _ _ _ (Pg.rows_ok hb' (by omega) (by omega) (by omega)) (by omega) fun c9 c10 c11 c12 => ?_
        exact hQ _ _ _ _ _ _ _ _ _
      · rw [if_neg hl]
        rw [if_neg hl, List.map_nil, List.append_nil] at hQ
        exact hQ _ _ _ _ _ _ _ _ _
    unfold forN
    simp [b2_walked]
    by_cases hr0 : 0 < r
    · rw [if_pos hr0]
      rw [if_pos hr0] at h
      refine ⟨w, "red", r, l, rfl, hw, ?_⟩
      rw [if_pos rfl]
      simp
      refine hr _ _ _ (by omega) ⟨a, _, _, k, rfl, by omega, by omega, ha, by omega, by omega, by omega, ?_⟩
      simp
      refine walked_loop (n := k) hr0 (by omega) (by omega) (by omega) _ [] _ _ _ _ (Pg.rows_ok ha (by omega) (by omega) (by omega)) (by simp; omega) fun c9 c10 c11 c12 => ?_
      rw [List.nil_append]
      exact blue _ _ _ _ _ _ _ _ _ _ _ (by simp; omega) fun _ _ _ _ _ _ _ _ _ => h
    · rw [if_neg hr0]
      rw [if_neg hr0] at h
      exact blue _ [] _ _ _ _ _ _ _ _ _ (by simp) fun _ _ _ _ _ _ _ _ _ => h
end AU

/-! AuPl: plain laws: the law's own walk. -/
namespace AU
open PySem L2 PySem.Spec PyProof.Rows
theorem red_blue : ¬ (("red" : Str) = "blue") := by decide +kernel
def S_walk : Spec := fun ds P Ex => ∃ (p : Pg) (r l : Int), ds = [p.d, .int r, .int l] ∧ p.ok 6 = true ∧ if r + l < max 0 (p.need 0) then Ex "TooFew" else 0 ≤ r ∧ 0 ≤ l ∧ r + l + 6 ≤ 1000000 ∧ P (.lst ((p.rows r l).map rowD))
theorem p_walk : ∀ ds Q Ex, S_walk ds Q Ex → t_walk S_check_program S_check_urn (S_walked 6) (startD 3 ds) (endsOf Q Ex) := by
  rintro _ Q Ex ⟨p, r, l, rfl, hp, h⟩
  simp [t_walk]
  refine check_ok hp ?_
  refine ⟨p, r, l, rfl, hp, ?_⟩
  by_cases hz : r + l < max 0 (p.need 0)
  · rw [if_pos hz] at h ⊢
    exact h
  · rw [if_neg hz] at h ⊢
    obtain ⟨h0, h1, h2, h⟩ := h
    exact ⟨p, r, l, 6, rfl, Nat.le_refl _, Nat.le_refl _, hp, h0, h1, h2, h⟩
/-! ### the law's own -/
def S__law_behind : Spec := fun ds P _ => ∃ (w c : Str) (r l : Int), ds = [.str w, .str c, .int r, .int l] ∧ wayB w = true ∧ (c = "red" ∨ c = "blue") ∧ P (if c = "red" then .lst [.int (r + stp w), .int (l + xtr w)] else .lst [.int (r + xtr w), .int (l + stp w)])
theorem p__law_behind : ∀ ds Q Ex, S__law_behind ds Q Ex → t__law_behind (startD 5 ds) (endsOf Q Ex) := by
  rintro _ Q Ex ⟨w, c, r, l, rfl, hw, hc, h⟩
  obtain ⟨z1, z2, z3, z4, z5, z6, z7, z8, z9, z10, z11, z12⟩ := way_neq
  rcases hc with rfl | rfl
  · rw [if_pos rfl] at h
    rcases way_cases hw with rfl | rfl | rfl | rfl <;>
    · simp only [stp, xtr, z1, z2, z3, z4, z5, z6, z7, z8, z9, z10, z11, z12, if_true, if_false] at h
      simpa [t__law_behind, z1, z2, z3, z4, z5, z6, z7, z8, z9, z10, z11, z12, red_blue, Int.sub_eq_add_neg] using h
  · rw [if_neg blue_red] at h
    rcases way_cases hw with rfl | rfl | rfl | rfl <;>
    · simp only [stp, xtr, z1, z2, z3, z4, z5, z6, z7, z8, z9, z10, z11, z12, if_true, if_false] at h
      simpa [t__law_behind, z1, z2, z3, z4, z5, z6, z7, z8, z9, z10, z11, z12, blue_red, Int.sub_eq_add_neg] using h
def S__law_need (N : Nat) : Spec := fun ds P _ => ∃ (p : Pg) (m : Int) (n : Nat), ds = [p.d, .int m] ∧ n ≤ N ∧ p.ok n = true ∧ P (.int (p.need m))
theorem p__law_need (N : Nat) (SR : Spec) (hr : ∀ ds P Ex, N ≠ 0 → S__law_need (N - 1) ds P Ex → SR ds P Ex) : ∀ ds Q Ex, S__law_need N ds Q Ex → t__law_need SR (startD 3 ds) (endsOf Q Ex) := by
  rintro _ Q Ex ⟨p, m, n, rfl, hn, hp, h⟩
  cases p with
  | mark w =>
    simp [t__law_need, Pg.d]
    exact h
  | draw w a b =>
    obtain ⟨k, rfl, hw, ha, hb⟩ := Pg.ok_draw hp
    obtain ⟨z1, z2, z3, z4, z5, z6, z7, z8, z9, z10, z11, z12⟩ := way_neq
    have go : ∀ s : Int, s = stp w + xtr w → SR [a.d, .int (m + s)] (fun d1 => SR [b.d, .int (m + s)] (fun d2 => fMax3 [.int (1 - m), d1, d2] Q) Ex) Ex := by
      rintro s rfl
      refine hr _ _ _ (by omega) ⟨a, _, k, rfl, by omega, ha, ?_⟩
      refine hr _ _ _ (by omega) ⟨b, _, k, rfl, by omega, hb, ?_⟩
      simp
      unfold Pg.need at h
      simpa using h
    rcases way_cases hw with rfl | rfl | rfl | rfl <;>
    · simp only [stp, xtr, z1, z2, z3, z4, z5, z6, z7, z8, z9, z10, z11, z12, if_true, if_false] at go
      have go := go _ rfl
      simp [t__law_need, Pg.d, dDisp, dKs, mergeS, putS, getS, z1, z2, z3, z4, z5, z6, z7, z8, z9, z10, z11, z12]
      simpa using go
theorem lcommon_loop {k : EndsD} : ∀ (n : Nat) (a b : Int) (c : Cell), b.natAbs < n → (∀ (x : Int) (c : Cell), x.natAbs = Int.gcd a b → k.nx [.fz (.int x), .fz (.int 0), c]) → whileN b1__law_common b2__law_common n [.fz (.int a), .fz (.int b), c] k
  | 0, a, b, c, h, _ => absurd h (Nat.not_lt_zero _)
  | n + 1, a, b, c, h, hk => by
    unfold whileN
    simp [b1__law_common]
    by_cases hb : b = 0
    · subst hb
      rw [if_pos rfl]
      exact hk a c (by simp)
    · rw [if_neg hb]
      simp [b2__law_common]
      refine ⟨hb, ?_⟩
      have hlt := fmod_abs a hb
      exact lcommon_loop n b (a.fmod b) _ (by omega) fun x c hx => hk x c (by rw [hx, gcd_fmod])
theorem p__law_common : ∀ ds Q Ex, S_common ds Q Ex → t__law_common (startD 3 ds) (endsOf Q Ex) := by
  rintro _ Q Ex ⟨a, b, rfl, h⟩
  simp [t__law_common]
  refine ⟨b.natAbs + 1, lcommon_loop _ a b _ (Nat.lt_succ_self _) fun x c hx => ?_⟩
  simp
  rw [show (x.natAbs : Int) = (Int.gcd a b : Int) by rw [hx]]
  exact h
def S__law_low : Spec := fun ds P _ => ∃ t b : Int, ds = [.int t, .int b] ∧ 0 < b ∧ bd 8000 t ∧ bd 8000 b ∧ P (fr (Rat.divInt t b))
theorem p__law_low : ∀ ds Q Ex, S__law_low ds Q Ex → t__law_low S_common (startD 3 ds) (endsOf Q Ex) := by
  rintro _ Q Ex ⟨t, b, rfl, hb, z1, z2, h⟩
  have hb0 : b ≠ 0 := by omega
  have g0 : (Int.gcd t b : Nat) ≠ 0 := fun z => hb0 (Int.gcd_eq_zero_iff.mp z).2
  simp [t__law_low]
  refine ⟨t, b, rfl, ?_⟩
  have gl : Int.gcd t b ≤ b.natAbs := Nat.le_of_dvd (by omega) (Int.gcd_dvd_natAbs_right t b)
  have glog : (Int.gcd t b).log2 < 9000 := by
    have h1 : (Int.gcd t b) < 2 ^ 8000 := Nat.lt_of_le_of_lt gl z2
    exact Nat.lt_of_lt_of_le (PySem.Flt.log2_lt_of (by decide) h1) (by decide)
  obtain ⟨e1, e2⟩ := low_num t hb0 (g := (Int.gcd t b : Int)) (by rw [Int.sign_eq_one_of_pos hb]; omega)
  have h : Q (.tup [.int (t.fdiv (Int.gcd t b : Nat)), .int (b.fdiv (Int.gcd t b : Nat))]) := by rw [e1, e2]; exact h
  simpa [g0, glog, hb0] using h
theorem lwalk_loop {S1 S2 : Spec} {c : Str} {many r l : Int} {c0 c6 c7 : Cell} {k : EndsD} {n : Nat} (h0 : 0 < many) (hm : many ≤ r + l) (hrl : r + l ≤ 1000000) (hn : n ≤ 6) : ∀ (rows : List Row) (found : List D) (c8 c9 c10 c11 : Cell), (∀ q ∈ rows, RowOk n q) → found.length + rows.length ≤ 16777216 →
    (∀ c8 c9 c10 c11, k.nx [c0, .fz (.int r), .fz (.int l), .ow (.lst (found ++ (rows.map (stepR c many (r + l))).map rowD)), .fz (.str c), .fz (.int many), c6, c7, c8, c9, c10, c11]) →
    forN (dgTup (dgCons (dgN 8) (dgCons (dgN 9) (dgCons (dgN 10) dgNil)))) (b1__law_walk S1 S2 S__law_low) (rows.map rowD) [c0, .fz (.int r), .fz (.int l), .ow (.lst found), .fz (.str c), .fz (.int many), c6, c7, c8, c9, c10, c11] k
  | [], found, c8, c9, c10, c11, _, _, h => by
    have h := h c8 c9 c10 c11
    rw [List.map_nil, List.map_nil, List.append_nil] at h
    exact h
  | q :: rows, found, c8, c9, c10, c11, ho, hl, h => by
    rw [List.length_cons] at hl
    have hq := ho q List.mem_cons_self
    have z := step_szR hq.sz (bd20 (show 0 ≤ many by omega) (by omega)) (bd20 (show 0 ≤ r + l by omega) (by omega)) (by omega)
    have m1 : IntMulOk q.2.2.num many := hq.sz.1.ok (bd20 (show 0 ≤ many by omega) (by omega)) (by omega)
    have m2 : IntMulOk (q.2.2.den : Int) (r + l) := hq.sz.den.ok (bd20 (show 0 ≤ r + l by omega) (by omega)) (by omega)
    have hln := hq.ln
    have dp : 0 < (q.2.2.den : Int) * (r + l) := Int.mul_pos (by have := q.2.2.den_pos; omega) (by omega)
    rw [List.map_cons]
    unfold forN
    simp [rowD, fr, b1__law_walk]
    refine ⟨m1, m2, ?_⟩
    refine ⟨_, _, rfl, dp, z.1.mono (by omega), z.2.1.mono (by omega), ?_⟩
    simp [fr]
    refine ⟨by omega, by omega, ?_⟩
    have e : D.tup [D.tup (D.str c :: q.1.map D.str), D.str q.2.1, .tup [.int (Rat.divInt (q.2.2.num * many) ((q.2.2.den : Int) * (r + l))).num, .int ((Rat.divInt (q.2.2.num * many) ((q.2.2.den : Int) * (r + l))).den : Int)]] = rowD (stepR c many (r + l) q) := rfl
    rw [e]
    refine lwalk_loop (S1 := S1) (S2 := S2) h0 hm hrl hn rows (found ++ [rowD (stepR c many (r + l) q)]) _ _ _ _ (fun x hx => ho x (List.mem_cons_of_mem _ hx)) (by rw [List.length_append]; simp; omega) fun c8 c9 c10 c11 => ?_
    rw [List.append_assoc]
    exact h c8 c9 c10 c11
def S__law_walk (N : Nat) : Spec := fun ds P _ => ∃ (p : Pg) (r l : Int) (n : Nat), ds = [p.d, .int r, .int l] ∧ n ≤ N ∧ n ≤ 6 ∧ p.ok n = true ∧ 0 ≤ r ∧ 0 ≤ l ∧ r + l + n ≤ 1000000 ∧ P (.lst ((p.rows r l).map rowD))
theorem p__law_walk (N : Nat) (SR : Spec) (hr : ∀ ds P Ex, N ≠ 0 → S__law_walk (N - 1) ds P Ex → SR ds P Ex) : ∀ ds Q Ex, S__law_walk N ds Q Ex → t__law_walk S__law_behind SR S__law_low (startD 12 ds) (endsOf Q Ex) := by
  rintro _ Q Ex ⟨p, r, l, n, rfl, hn, h6, hp, h0, h1, hb, h⟩
  cases p with
  | mark w =>
    simp [t__law_walk, Pg.d]
    exact h
  | draw w a b =>
    obtain ⟨k, rfl, hw, ha, hb'⟩ := Pg.ok_draw hp
    have sx := sx_bd w
    have la := Pg.rows_len (r := r + stp w) (l := l + xtr w) ha
    have lb := Pg.rows_len (r := r + xtr w) (l := l + stp w) hb'
    have k64 : 2 ^ k ≤ 64 := Nat.le_trans (Nat.pow_le_pow_right (by decide) (show k ≤ 6 by omega)) (by decide)
    simp [t__law_walk, Pg.d]
    unfold Pg.rows at h
    rw [List.map_append] at h
    have blue : ∀ (kk : EndsD) (found : List D) (c4 c5 c6 c7 c8 c9 c10 c11 : Cell), found.length ≤ 64 → (∀ c4 c5 c6 c7 c8 c9 c10 c11, kk.nx [.fz (.tup [.str "draw", .str w, a.d, b.d]), .fz (.int r), .fz (.int l), .ow (.lst (found ++ (if 0 < l then (b.rows (r + xtr w) (l + stp w)).map (stepR "blue" l (r + l)) else []).map rowD)), c4, c5, c6, c7, c8, c9, c10, c11]) →
        forN (dgN 4) (b2__law_walk S__law_behind SR S__law_low) [.str "blue"] [.fz (.tup [.str "draw", .str w, a.d, b.d]), .fz (.int r), .fz (.int l), .ow (.lst found), c4, c5, c6, c7, c8, c9, c10, c11] kk := by
      intro kk found c4 c5 c6 c7 c8 c9 c10 c11 hf hQ
      unfold forN
      simp [b2__law_walk, blue_red]
      by_cases hl : 0 < l
      · rw [if_pos hl]
        rw [if_pos hl] at hQ
        refine ⟨w, "blue", r, l, rfl, hw, .inr rfl, ?_⟩
        rw [if_neg blue_red]
        simp
        refine hr _ _ _ (by omega) ⟨b, _, _, k, rfl, by omega, by omega, hb', by omega, by omega, by omega, ?_⟩
        simp
        refine lwalk_loop (n := k) hl (by omega) (by omega) (by omega) _ found _ _ _ _ (Pg.rows_ok hb' (by omega) (by omega) (by omega)) (by omega) fun c8 c9 c10 c11 => ?_
        exact hQ _ _ _ _ _ _ _ _
      · rw [if_neg hl]
        rw [if_neg hl, List.map_nil, List.append_nil] at hQ
        exact hQ _ _ _ _ _ _ _ _
    unfold forN
    simp [b2__law_walk, red_blue]
    by_cases hr0 : 0 < r
    · rw [if_pos hr0]
      rw [if_pos hr0] at h
      refine ⟨w, "red", r, l, rfl, hw, .inl rfl, ?_⟩
      rw [if_pos rfl]
      simp
      refine hr _ _ _ (by omega) ⟨a, _, _, k, rfl, by omega, by omega, ha, by omega, by omega, by omega, ?_⟩
      simp
      refine lwalk_loop (n := k) hr0 (by omega) (by omega) (by omega) _ [] _ _ _ _ (Pg.rows_ok ha (by omega) (by omega) (by omega)) (by simp; omega) fun c8 c9 c10 c11 => ?_
      rw [List.nil_append]
      exact blue _ _ _ _ _ _ _ _ _ _ (by simp; omega) fun _ _ _ _ _ _ _ _ => h
    · rw [if_neg hr0]
      rw [if_neg hr0] at h
      exact blue _ [] _ _ _ _ _ _ _ _ (by simp) fun _ _ _ _ _ _ _ _ => h
end AU

/-! AuPm: plain laws: sums over the rows of a walk. -/
namespace AU
open PySem L2 PySem.Spec PyProof.Rows
/-! ### the sums of a walk -/
def sumM (m : Str) : List Row → Rat
  | [] => 0
  | q :: rs => (if q.2.1 = m then q.2.2 else 0) + sumM m rs
def sumA : List Row → Rat
  | [] => 0
  | q :: rs => q.2.2 + sumA rs
def sumL : List Row → Rat
  | [] => 0
  | q :: rs => (q.1.length : Rat) * q.2.2 + sumL rs
theorem step_val (c : Str) (many n : Int) (q : Row) : (stepR c many n q).2.2 = q.2.2 * ((many : Rat) / (n : Rat)) := by
  show Rat.divInt (q.2.2.num * many) ((q.2.2.den : Int) * n) = _
  rw [Rat.divInt_eq_div, Rat.intCast_mul, Rat.intCast_mul]
  have h : (q.2.2.num : Rat) / ((q.2.2.den : Int) : Rat) = q.2.2 := by rw [← Rat.divInt_eq_div]; exact Rat.num_divInt_den q.2.2
  have hd : ((q.2.2.den : Int) : Rat) ≠ 0 := by
    have := q.2.2.den_pos
    intro z
    have : (q.2.2.den : Int) = 0 := by exact_mod_cast z
    omega
  generalize ((q.2.2.den : Int) : Rat) = d at *
  generalize (q.2.2.num : Rat) = a at *
  rw [← h]
  by_cases hn : (n : Rat) = 0
  · rw [hn]
    simp [Rat.div_def]
  · grind
theorem sumM_app (m : Str) (s t : List Row) : sumM m (s ++ t) = sumM m s + sumM m t := by
  induction s with
  | nil => simp only [List.nil_append, sumM]; grind
  | cons q s ih => simp only [List.cons_append, sumM, ih]; grind
theorem sumA_app (s t : List Row) : sumA (s ++ t) = sumA s + sumA t := by
  induction s with
  | nil => simp only [List.nil_append, sumA]; grind
  | cons q s ih => simp only [List.cons_append, sumA, ih]; grind
theorem sumL_app (s t : List Row) : sumL (s ++ t) = sumL s + sumL t := by
  induction s with
  | nil => simp only [List.nil_append, sumL]; grind
  | cons q s ih => simp only [List.cons_append, sumL, ih]; grind
theorem sumM_step (m c : Str) (many n : Int) (s : List Row) : sumM m (s.map (stepR c many n)) = (many : Rat) / (n : Rat) * sumM m s := by
  induction s with
  | nil => simp only [List.map_nil, sumM]; grind
  | cons q s ih =>
    have e : (stepR c many n q).2.1 = q.2.1 := rfl
    simp only [List.map_cons, sumM, ih, step_val, e]
    split <;> grind
theorem sumA_step (c : Str) (many n : Int) (s : List Row) : sumA (s.map (stepR c many n)) = (many : Rat) / (n : Rat) * sumA s := by
  induction s with
  | nil => simp only [List.map_nil, sumA]; grind
  | cons q s ih =>
    simp only [List.map_cons, sumA, ih, step_val]
    grind
theorem sumL_step (c : Str) (many n : Int) (s : List Row) : sumL (s.map (stepR c many n)) = (many : Rat) / (n : Rat) * (sumA s + sumL s) := by
  induction s with
  | nil => simp only [List.map_nil, sumL, sumA]; grind
  | cons q s ih =>
    have e : (stepR c many n q).1.length = q.1.length + 1 := rfl
    simp only [List.map_cons, sumL, sumA, ih, step_val, e]
    have : ((q.1.length + 1 : Nat) : Rat) = (q.1.length : Rat) + 1 := by push_cast; rfl
    rw [this]
    grind
theorem Pg.sum_ch (m : Str) : ∀ {p : Pg} {r l : Int}, 0 ≤ r → 0 ≤ l → p.enough (r + l) → sumM m (p.rows r l) = p.ch r l m
  | .mark w, r, l, _, _, _ => by
    simp only [Pg.rows, sumM, Pg.ch]
    split <;> grind
  | .draw w a b, r, l, hr, hl, he => by
    obtain ⟨h1, ha, hb⟩ := he
    have sx := sx_bd w
    simp only [Pg.rows, Pg.ch, sumM_app]
    have e1 : sumM m (if 0 < r then (a.rows (r + stp w) (l + xtr w)).map (stepR "red" r (r + l)) else []) = (r : Rat) / ((r + l : Int) : Rat) * a.ch (r + stp w) (l + xtr w) m := by
      split
      · rw [sumM_step, Pg.sum_ch m (by omega) (by omega) (by rw [show r + stp w + (l + xtr w) = r + l + (stp w + xtr w) by omega]; exact ha)]
      · have : r = 0 := by omega
        subst this
        simp only [sumM]
        have : ((0 : Int) : Rat) = 0 := rfl
        rw [this, Rat.div_def]
        grind
    have e2 : sumM m (if 0 < l then (b.rows (r + xtr w) (l + stp w)).map (stepR "blue" l (r + l)) else []) = (l : Rat) / ((r + l : Int) : Rat) * b.ch (r + xtr w) (l + stp w) m := by
      split
      · rw [sumM_step, Pg.sum_ch m (by omega) (by omega) (by rw [show r + xtr w + (l + stp w) = r + l + (stp w + xtr w) by omega]; exact hb)]
      · have : l = 0 := by omega
        subst this
        simp only [sumM]
        have : ((0 : Int) : Rat) = 0 := rfl
        rw [this, Rat.div_def]
        grind
    rw [e1, e2]
theorem Pg.sum_mean : ∀ {p : Pg} {r l : Int}, 0 ≤ r → 0 ≤ l → p.enough (r + l) → sumA (p.rows r l) = 1 ∧ sumL (p.rows r l) = p.mean r l
  | .mark w, r, l, _, _, _ => by
    simp only [Pg.rows, sumA, sumL, Pg.mean]
    constructor
    · grind
    · have : ((([] : List Str).length : Nat) : Rat) = 0 := rfl
      rw [this]
      grind
  | .draw w a b, r, l, hr, hl, he => by
    obtain ⟨h1, ha, hb⟩ := he
    have sx := sx_bd w
    have hz : ((r + l : Int) : Rat) ≠ 0 := by
      intro z
      have : r + l = 0 := by exact_mod_cast z
      omega
    have hs : ((r + l : Int) : Rat) = (r : Rat) + (l : Rat) := Rat.intCast_add r l
    simp only [Pg.rows, Pg.mean, sumA_app, sumL_app]
    have e1 : sumA (if 0 < r then (a.rows (r + stp w) (l + xtr w)).map (stepR "red" r (r + l)) else []) = (r : Rat) / ((r + l : Int) : Rat) ∧ sumL (if 0 < r then (a.rows (r + stp w) (l + xtr w)).map (stepR "red" r (r + l)) else []) = (r : Rat) / ((r + l : Int) : Rat) * (1 + a.mean (r + stp w) (l + xtr w)) := by
      split
      · obtain ⟨q1, q2⟩ := Pg.sum_mean (p := a) (r := r + stp w) (l := l + xtr w) (by omega) (by omega) (by rw [show r + stp w + (l + xtr w) = r + l + (stp w + xtr w) by omega]; exact ha)
        rw [sumA_step, sumL_step, q1, q2]
        exact ⟨by grind, rfl⟩
      · have : r = 0 := by omega
        subst this
        simp only [sumA, sumL]
        have : ((0 : Int) : Rat) = 0 := rfl
        rw [this, Rat.div_def]
        exact ⟨by grind, by grind⟩
    have e2 : sumA (if 0 < l then (b.rows (r + xtr w) (l + stp w)).map (stepR "blue" l (r + l)) else []) = (l : Rat) / ((r + l : Int) : Rat) ∧ sumL (if 0 < l then (b.rows (r + xtr w) (l + stp w)).map (stepR "blue" l (r + l)) else []) = (l : Rat) / ((r + l : Int) : Rat) * (1 + b.mean (r + xtr w) (l + stp w)) := by
      split
      · obtain ⟨q1, q2⟩ := Pg.sum_mean (p := b) (r := r + xtr w) (l := l + stp w) (by omega) (by omega) (by rw [show r + xtr w + (l + stp w) = r + l + (stp w + xtr w) by omega]; exact hb)
        rw [sumA_step, sumL_step, q1, q2]
        exact ⟨by grind, rfl⟩
      · have : l = 0 := by omega
        subst this
        simp only [sumA, sumL]
        have : ((0 : Int) : Rat) = 0 := rfl
        rw [this, Rat.div_def]
        exact ⟨by grind, by grind⟩
    rw [e1.1, e1.2, e2.1, e2.2]
    rw [hs] at hz ⊢
    exact ⟨by grind, by grind⟩
theorem sumM_none {m : Str} : ∀ {rs : List Row}, (∀ q ∈ rs, q.2.1 ≠ m) → sumM m rs = 0
  | [], _ => rfl
  | q :: rs, h => by
    simp only [sumM]
    rw [if_neg (h q List.mem_cons_self), sumM_none fun x hx => h x (List.mem_cons_of_mem _ hx)]
    grind
theorem Pg.row_mark : ∀ {p : Pg} {r l : Int} {q : Row}, q ∈ p.rows r l → q.2.1 ∈ p.marks
  | .mark w, r, l, q, h => by
    have e : q = ([], w, 1) := List.mem_singleton.mp h
    subst e
    exact List.mem_singleton.mpr rfl
  | .draw w a b, r, l, q, h => by
    unfold Pg.rows at h
    show _ ∈ a.marks ++ b.marks
    rcases List.mem_append.mp h with h | h
    · split at h
      · obtain ⟨q', hq', rfl⟩ := List.mem_map.mp h
        exact List.mem_append.mpr (.inl (show q'.2.1 ∈ _ from Pg.row_mark hq'))
      · cases h
    · split at h
      · obtain ⟨q', hq', rfl⟩ := List.mem_map.mp h
        exact List.mem_append.mpr (.inr (show q'.2.1 ∈ _ from Pg.row_mark hq'))
      · cases h
/-! ### sums of fractions -/
theorem szR.add {n m : Nat} {p q : Rat} (h : szR n p) (h' : szR m q) : szR (n + m + 1) (p + q) ∧ Rat.divInt (p.num * (q.den : Int) + q.num * (p.den : Int)) ((p.den : Int) * (q.den : Int)) = p + q := by
  have hp : (p.den : Int) ≠ 0 := by have := p.den_pos; omega
  have hq : (q.den : Int) ≠ 0 := by have := q.den_pos; omega
  have e : Rat.divInt (p.num * (q.den : Int) + q.num * (p.den : Int)) ((p.den : Int) * (q.den : Int)) = p + q := by
    have := Rat.divInt_add_divInt p.num q.num hp hq
    rw [Rat.num_divInt_den, Rat.num_divInt_den] at this
    exact this.symm
  refine ⟨?_, e⟩
  rw [← e]
  have b1 := h.1.mul h'.den
  have b2 := h'.1.mul h.den
  rw [Nat.add_comm] at b2
  exact szR.of (b1.add b2) ((h.den.mul h'.den).mono (by omega)) (Int.mul_ne_zero hp hq)
def S__law_sum : Spec := fun ds P _ => ∃ a b c d : Int, ds = [.tup [.int a, .int b], .tup [.int c, .int d]] ∧ 0 < b ∧ 0 < d ∧ (∃ n m, bd n a ∧ bd n b ∧ bd m c ∧ bd m d ∧ n + m ≤ 7900) ∧ P (fr (Rat.divInt a b + Rat.divInt c d))
theorem p__law_sum : ∀ ds Q Ex, S__law_sum ds Q Ex → t__law_sum S__law_low (startD 2 ds) (endsOf Q Ex) := by
  rintro _ Q Ex ⟨a, b, c, d, rfl, hb, hd, ⟨n, m, ba, bb, bc, bdd, hnm⟩, h⟩
  simp [t__law_sum]
  refine ⟨ba.ok bdd (by omega), bc.ok bb (by omega), bb.ok bdd (by omega), ?_⟩
  refine ⟨_, _, rfl, Int.mul_pos hb hd, ?_, ((bb.mul bdd).mono (by omega)), ?_⟩
  · have b1 := ba.mul bdd
    have b2 := bc.mul bb
    rw [Nat.add_comm] at b2
    exact (b1.add b2).mono (by omega)
  · rw [Rat.divInt_add_divInt a c (show b ≠ 0 by omega) (show d ≠ 0 by omega)] at h
    exact h
theorem fr_zero : D.tup [D.int 0, D.int 1] = fr 0 := rfl
theorem sum_fr {p : Rat} {c d : Int} {n m : Nat} {P : D → Prop} {Ex : Str → Prop} (hp : szR n p) (hd : 0 < d) (bc : bd m c) (bdd : bd m d) (hnm : n + m ≤ 7900) (h : P (fr (p + Rat.divInt c d))) : S__law_sum [fr p, .tup [.int c, .int d]] P Ex := by
  refine ⟨p.num, (p.den : Int), c, d, rfl, by have := p.den_pos; omega, hd, ⟨n, m, hp.1, hp.den, bc, bdd, hnm⟩, ?_⟩
  rw [Rat.num_divInt_den]
  exact h
theorem szR.divInt {n : Nat} {c d : Int} (hc : bd n c) (hd : bd n d) (h0 : d ≠ 0) : szR n (Rat.divInt c d) := szR.of hc hd h0
/-- found[mark] = sum(found.get(mark, (0, 1)), value) -/
theorem lmarks_loop {c0 c1 c2 : Cell} {S1 : Spec} {k : EndsD} {n : Nat} (hn : n ≤ 5) : ∀ (rows : List Row) (found : List (Str × D)) (V : Str → Rat) (s : Nat) (c4 c5 c6 : Cell), (∀ q ∈ rows, RowOk n q) → (found.map (·.1)).Nodup → found.length + rows.length ≤ 16777216 → (∀ m, (getS found m).getD (fr 0) = fr (V m)) → (∀ m, szR s (V m)) → s + rows.length * 120 ≤ 7500 →
    (∀ found' c4 c5 c6, (found'.map (·.1)).Nodup → (∀ m, m ∈ found'.map (·.1) ↔ m ∈ found.map (·.1) ∨ ∃ q ∈ rows, q.2.1 = m) → (∀ m, (getS found' m).getD (fr 0) = fr (V m + sumM m rows)) → k.nx [c0, c1, c2, .ow (.dS found'), c4, c5, c6]) →
    forN (dgTup (dgCons (dgN 4) (dgCons (dgN 5) (dgCons (dgN 6) dgNil)))) (b1__law_marks S1 S__law_sum) (rows.map rowD) [c0, c1, c2, .ow (.dS found), c4, c5, c6] k
  | [], found, V, s, c4, c5, c6, _, nd, _, hV, _, _, h => h found c4 c5 c6 nd (fun m => by simp) fun m => by
      rw [hV]
      simp only [sumM]
      congr 1
      grind
  | q :: rows, found, V, s, c4, c5, c6, ho, nd, hl, hV, hs, hb, h => by
    rw [List.length_cons] at hl hb
    have hq := ho q List.mem_cons_self
    have nk := putS_keys found q.2.1
    rw [List.map_cons]
    unfold forN
    simp [rowD, b1__law_marks]
    rw [fr_zero, hV]
    have hd : 0 < (q.2.2.den : Int) := by have := q.2.2.den_pos; omega
    refine sum_fr (hs q.2.1) hd (hq.sz.1.mono (show 20 * n + 1 ≤ 101 by omega)) (hq.sz.den.mono (by omega)) (by omega) ?_
    rw [Rat.num_divInt_den]
    refine ⟨by omega, ?_⟩
    have ll : (putS found q.2.1 (fr (V q.2.1 + q.2.2))).length ≤ found.length + 1 := by
      have := congrArg List.length (nk (fr (V q.2.1 + q.2.2)))
      rw [List.length_map] at this
      rw [this]
      split
      · rw [List.length_map]; omega
      · rw [List.length_append, List.length_map]; simp
    refine lmarks_loop (S1 := S1) hn rows (putS found q.2.1 (fr (V q.2.1 + q.2.2))) (fun m => if q.2.1 = m then V m + q.2.2 else V m) (s + 120) _ _ _ (fun x hx => ho x (List.mem_cons_of_mem _ hx)) ?_ (by omega) (fun m => ?_) (fun m => ?_) (by omega) fun found' c4 c5 c6 n1 m1 v1 => h found' c4 c5 c6 n1 (fun m => ?_) fun m => ?_
    · rw [nk]
      split
      · exact nd
      · rename_i hn
        rw [List.nodup_append]
        refine ⟨nd, by simp, fun a ha b hb e => ?_⟩
        have : b = q.2.1 := by simpa using hb
        exact hn (by rw [← this, ← e]; exact ha)
    · rw [getS_put]
      by_cases e : q.2.1 = m
      · rw [if_pos e, if_pos e, ← e]; rfl
      · rw [if_neg e, if_neg e]; exact hV m
    · show szR (s + 120) (if q.2.1 = m then V m + q.2.2 else V m)
      split
      · exact ((hs m).add hq.sz).1.mono (by omega)
      · exact (hs m).mono (by omega)
    · rw [m1, nk]
      constructor
      · rintro (z | ⟨x, hx, e⟩)
        · split at z
          · exact .inl z
          · rcases List.mem_append.mp z with z | z
            · exact .inl z
            · exact .inr ⟨q, List.mem_cons_self, (by simpa using z : m = q.2.1).symm⟩
        · exact .inr ⟨x, List.mem_cons_of_mem _ hx, e⟩
      · rintro (z | ⟨x, hx, e⟩)
        · refine .inl ?_
          split
          · exact z
          · exact List.mem_append.mpr (.inl z)
        · rcases List.mem_cons.mp hx with e1 | hx
          · refine .inl ?_
            rw [← e, e1]
            split
            · assumption
            · exact List.mem_append.mpr (.inr (by simp))
          · exact .inr ⟨x, hx, e⟩
    · rw [v1]
      simp only [sumM]
      congr 1
      split <;> grind
def S__law_marks : Spec := fun ds P _ => ∃ (p : Pg) (r l : Int), ds = [p.d, .int r, .int l] ∧ p.ok 5 = true ∧ 0 ≤ r ∧ 0 ≤ l ∧ r + l + 6 ≤ 1000000 ∧
  ∀ kvs : List (Str × D), (kvs.map (·.1)).Nodup → (∀ m, m ∈ kvs.map (·.1) ↔ ∃ q ∈ p.rows r l, q.2.1 = m) → (∀ m, (getS kvs m).getD (fr 0) = fr (sumM m (p.rows r l))) → P (.dS kvs)
theorem szR_zero : szR 1 0 := ⟨by show (0 : Int).natAbs < 2 ^ 1; decide, by show 1 < 2 ^ 1; decide⟩
theorem p__law_marks : ∀ ds Q Ex, S__law_marks ds Q Ex → t__law_marks (S__law_walk 6) S__law_sum (startD 7 ds) (endsOf Q Ex) := by
  rintro _ Q Ex ⟨p, r, l, rfl, hp, h0, h1, hb, h⟩
  have hl := Pg.rows_len (r := r) (l := l) hp
  have hl : (p.rows r l).length ≤ 32 := hl
  simp [t__law_marks]
  refine ⟨p, r, l, 5, rfl, by omega, by omega, hp, h0, h1, by omega, ?_⟩
  simp
  refine lmarks_loop (S1 := S__law_walk 6) (n := 5) (by omega) (p.rows r l) [] (fun _ => 0) 1 _ _ _ (Pg.rows_ok hp h0 h1 (by omega)) (by simp) (by simp; omega) (fun m => by simp [getS]) (fun m => szR_zero) (by omega) fun f c4 c5 c6 n1 m1 v1 => ?_
  simp
  refine h f n1 (fun m => by rw [m1]; simp) fun m => ?_
  rw [v1]
  congr 1
  grind
/-- the mean -/
theorem lmean_loop {c0 c1 c2 : Cell} {S1 : Spec} {k : EndsD} {n : Nat} (hn : n ≤ 5) : ∀ (rows : List Row) (v : Rat) (s : Nat) (c4 c5 c6 : Cell), (∀ q ∈ rows, RowOk n q) → szR s v → s + rows.length * 120 ≤ 7500 →
    (∀ c4 c5 c6, k.nx [c0, c1, c2, .fz (fr (v + sumL rows)), c4, c5, c6]) →
    forN (dgTup (dgCons (dgN 4) (dgCons (dgN 5) (dgCons (dgN 6) dgNil)))) (b1__law_mean S1 S__law_sum) (rows.map rowD) [c0, c1, c2, .fz (fr v), c4, c5, c6] k
  | [], v, s, c4, c5, c6, _, _, _, h => by
    have h := h c4 c5 c6
    simp only [sumL] at h
    rw [show v + 0 = v by grind] at h
    exact h
  | q :: rows, v, s, c4, c5, c6, ho, hs, hb, h => by
    rw [List.length_cons] at hb
    have hq := ho q List.mem_cons_self
    have hln := hq.ln
    have hd : 0 < (q.2.2.den : Int) := by have := q.2.2.den_pos; omega
    have b1 : bd 10 ((q.1.length : Int)) := by unfold bd; omega
    have b2 := b1.mul hq.sz.1
    have ev : Rat.divInt ((q.1.length : Int) * q.2.2.num) (q.2.2.den : Int) = (q.1.length : Rat) * q.2.2 := by
      have e : Rat.divInt q.2.2.num (q.2.2.den : Int) = q.2.2 := Rat.num_divInt_den q.2.2
      rw [Rat.divInt_eq_div] at e ⊢
      rw [Rat.intCast_mul]
      have : (((q.1.length : Nat) : Int) : Rat) = ((q.1.length : Nat) : Rat) := Rat.intCast_natCast _
      rw [this]
      grind
    rw [List.map_cons]
    unfold forN
    have ef : fr q.2.2 = .tup [.int q.2.2.num, .int (q.2.2.den : Int)] := rfl
    simp [rowD, b1__law_mean, ef]
    refine ⟨b1.ok hq.sz.1 (by omega), ?_⟩
    refine sum_fr hs hd (b2.mono (show 10 + (20 * n + 1) ≤ 111 by omega)) (hq.sz.den.mono (by omega)) (by omega) ?_
    rw [ev]
    refine lmean_loop (S1 := S1) hn rows (v + (q.1.length : Rat) * q.2.2) (s + 120) _ _ _ (fun x hx => ho x (List.mem_cons_of_mem _ hx)) ?_ (by omega) fun c4 c5 c6 => ?_
    · have z : szR 111 ((q.1.length : Rat) * q.2.2) := by
        rw [← ev]
        exact szR.of (b2.mono (by omega)) (hq.sz.den.mono (by omega)) (by omega)
      exact (hs.add z).1.mono (by omega)
    · have h := h c4 c5 c6
      simp only [sumL] at h
      rw [show v + ((q.1.length : Rat) * q.2.2 + sumL rows) = v + (q.1.length : Rat) * q.2.2 + sumL rows by grind] at h
      exact h
def S__law_mean : Spec := fun ds P _ => ∃ (p : Pg) (r l : Int), ds = [p.d, .int r, .int l] ∧ p.ok 5 = true ∧ 0 ≤ r ∧ 0 ≤ l ∧ r + l + 6 ≤ 1000000 ∧ P (fr (sumL (p.rows r l)))
theorem p__law_mean : ∀ ds Q Ex, S__law_mean ds Q Ex → t__law_mean (S__law_walk 6) S__law_sum (startD 7 ds) (endsOf Q Ex) := by
  rintro _ Q Ex ⟨p, r, l, rfl, hp, h0, h1, hb, h⟩
  have hl := Pg.rows_len (r := r) (l := l) hp
  have hl : (p.rows r l).length ≤ 32 := hl
  simp [t__law_mean]
  rw [fr_zero]
  refine ⟨p, r, l, 5, rfl, by omega, by omega, hp, h0, h1, by omega, ?_⟩
  simp
  refine lmean_loop (S1 := S__law_walk 6) (n := 5) (by omega) (p.rows r l) 0 1 _ _ _ (Pg.rows_ok hp h0 h1 (by omega)) szR_zero (by omega) fun c4 c5 c6 => ?_
  simp
  rw [show (0 : Rat) + sumL (p.rows r l) = sumL (p.rows r l) by grind]
  exact h
end AU

/-! AuPn: plain laws: the laws' urns, trees, refusals. -/
namespace AU
open PySem L2 PySem.Spec PyProof.Rows
theorem Pg.need_small : ∀ {n : Nat} {p : Pg} {m : Int}, p.ok n = true → p.need m ≤ 1 + m.natAbs + n
  | _, .mark _, _, _ => by show (0 : Int) ≤ _; omega
  | 0, .draw _ _ _, _, h => by cases h
  | n + 1, .draw w a b, m, h => by
    have h : (wayB w && (a.ok n && b.ok n)) = true := h
    simp only [Bool.and_eq_true] at h
    have h1 := Pg.need_small (m := m + (stp w + xtr w)) h.2.1
    have h2 := Pg.need_small (m := m + (stp w + xtr w)) h.2.2
    have h3 := sx_bd w
    unfold Pg.need
    omega
def S__law_urn : Spec := fun ds P _ => ∃ (p : Pg) (m : Int), ds = [.drw, p.d, .int m] ∧ p.ok 6 = true ∧ 0 < m ∧ m ≤ 1000 ∧ ∀ r l : Int, 0 ≤ r → 0 ≤ l → max (p.need 0) 1 ≤ r + l → r + l ≤ max (p.need 0) 1 + m → P (.lst [.int r, .int l])
theorem p__law_urn : ∀ ds Q Ex, S__law_urn ds Q Ex → t__law_urn (S__law_need 6) S__law_draw (startD 5 ds) (endsOf Q Ex) := by
  rintro _ Q Ex ⟨p, m, rfl, hp, m0, m1, h⟩
  have hs := Pg.need_small (m := 0) hp
  simp [t__law_urn]
  refine ⟨p, 0, 6, rfl, Nat.le_refl _, hp, ?_⟩
  simp
  refine ⟨m, rfl, m0, by omega, fun x x0 x1 => ?_⟩
  refine ⟨_, rfl, by omega, by omega, fun y y0 y1 => ?_⟩
  exact h y _ y0 (by omega) (by omega) (by omega)
def S__law_tree (N : Nat) : Spec := fun ds P _ => ∃ n : Nat, ds = [.drw, .int n] ∧ 1 ≤ n ∧ n ≤ N ∧ ∀ (w : Str) (a b : Pg), (Pg.draw w a b).ok n = true → P (Pg.draw w a b).d
theorem p__law_tree (N : Nat) : ∀ ds Q Ex, S__law_tree N ds Q Ex → t__law_tree (S__law_program N) S__law_ways S__law_draw (startD 4 ds) (endsOf Q Ex) := by
  rintro _ Q Ex ⟨n, rfl, h1, hn, h⟩
  obtain ⟨k, rfl⟩ : ∃ k, n = k + 1 := ⟨n - 1, by omega⟩
  simp [t__law_tree]
  refine ⟨k + 1, rfl, hn, fun p hp => ?_⟩
  cases p with
  | mark w =>
    simp [Pg.d]
    refine ⟨rfl, ?_⟩
    simp
    refine ⟨4, rfl, by decide, by decide, fun r r0 r4 => ?_⟩
    obtain ⟨w', hw, ew⟩ := way_at r0 r4
    simp
    refine ⟨_, ew, ?_⟩
    refine ⟨k, by simp, by omega, fun a ha => ?_⟩
    refine ⟨k, by simp, by omega, fun b hb => ?_⟩
    have := h w' a b (by show (wayB w' && (a.ok k && b.ok k)) = true; rw [hw, ha, hb]; rfl)
    simpa [Pg.d] using this
  | draw w a b =>
    have := h w a b hp
    simp [Pg.d] at this ⊢
    exact this
end AU

/-! AuPp: plain laws: sorted texts, == of texts and fractions. -/
namespace AU
open PySem L2 PySem.Spec PyProof.Rows
def leS (a b : Str) : Prop := ¬ b.cps.toList < a.cps.toList
theorem leS_trans {a b c : Str} (h1 : leS a b) (h2 : leS b c) : leS a c := by
  unfold leS at *
  exact List.le_trans (α := Nat) (l₁ := a.cps.toList) (l₂ := b.cps.toList) (l₃ := c.cps.toList) h1 h2
theorem leS_antisymm {a b : Str} (h1 : leS a b) (h2 : leS b a) : a = b := by
  have e : a.cps.toList = b.cps.toList := List.le_antisymm (α := Nat) h1 h2
  have e2 := congrArg List.toArray e
  simp at e2
  cases a; cases b
  simp at e2
  subst e2
  rfl
theorem rising_pairwise : ∀ (p : Str) (l : List Str), risingS p l = true → (p :: l).Pairwise leS
  | p, [], _ => List.pairwise_singleton _ _
  | p, x :: r, h => by
    have h : (!ltCps x.cps.toList p.cps.toList && risingS x r) = true := h
    rw [Bool.and_eq_true] at h
    obtain ⟨h1, h2⟩ := h
    rw [ltCps_eq] at h1
    have h1 : leS p x := by
      unfold leS
      simpa using h1
    have ih := rising_pairwise x r h2
    refine List.pairwise_cons.mpr ⟨fun y hy => ?_, ih⟩
    rcases List.mem_cons.mp hy with e | hy
    · rw [e]; exact h1
    · exact leS_trans h1 ((List.pairwise_cons.mp ih).1 y hy)
theorem sortedS_pairwise : ∀ {l : List Str}, sortedS l = true → l.Pairwise leS
  | [], _ => .nil
  | x :: r, h => rising_pairwise x r h
theorem sortedS_unique {xs ys : List Str} (hp : xs.Perm ys) (h1 : sortedS xs = true) (h2 : sortedS ys = true) : xs = ys :=
  List.Perm.eq_of_pairwise (le := leS) (fun a b _ _ h1 h2 => leS_antisymm h1 h2) (sortedS_pairwise h1) (sortedS_pairwise h2) hp
theorem small_ok : (("abcdefghijklmnopqrstuvwxyz" : Str).cps.toList.all fun c => decide (c < 128)) = true := by decide +kernel
theorem word_strOk {w : Str} (h : wordB w = true) : PyData.strOk w = true := by
  have h2 := word_small h
  unfold PyData.strOk
  rw [← Array.all_toList, List.all_eq_true]
  intro c hc
  have := h2 c hc
  unfold smallB at this
  have hm := of_decide_eq_true this
  have := of_decide_eq_true (List.all_eq_true.mp small_ok c hm)
  exact decide_eq_true (by omega)
theorem Pg.mark_word : ∀ {n : Nat} {p : Pg} {m : Str}, p.ok n = true → m ∈ p.marks → wordB m = true
  | n, .mark w, m, h, hm => by
    rw [List.mem_singleton.mp hm]
    exact Pg.ok_mark h
  | 0, .draw _ _ _, _, h, _ => by cases h
  | n + 1, .draw w a b, m, h, hm => by
    have h : (wayB w && (a.ok n && b.ok n)) = true := h
    simp only [Bool.and_eq_true] at h
    rcases List.mem_append.mp hm with hm | hm
    · exact Pg.mark_word h.2.1 hm
    · exact Pg.mark_word h.2.2 hm
theorem lays_strs : ∀ {xs : List Str}, (∀ x ∈ xs, PyData.strOk x = true) → lays (xs.map D.str) = true
  | [], _ => rfl
  | x :: xs, h => by
    show (PyData.strOk x && lays (xs.map D.str)) = true
    rw [h x List.mem_cons_self, lays_strs fun y hy => h y (List.mem_cons_of_mem _ hy)]
    rfl
theorem deps_strs : ∀ xs : List Str, deps (xs.map D.str) = 0
  | [] => rfl
  | x :: xs => by
    show max 0 (deps (xs.map D.str)) = 0
    rw [deps_strs xs]
    rfl
theorem eqOk_strs {xs : List Str} (h : ∀ x ∈ xs, PyData.strOk x = true) : eqOk (.lst (xs.map D.str)) := by
  refine ⟨lays_strs h, ?_⟩
  show deps (xs.map D.str) + 1 ≤ 64
  rw [deps_strs]
  decide
theorem deqs_strs : ∀ (xs ys : List Str), deqs (xs.map D.str) (ys.map D.str) = decide (xs = ys)
  | [], [] => rfl
  | [], y :: ys => by simp [deqs]
  | x :: xs, [] => by simp [deqs]
  | x :: xs, y :: ys => by
    show ((x == y) && deqs (xs.map D.str) (ys.map D.str)) = _
    rw [deqs_strs xs ys]
    by_cases h : x = y <;> by_cases h2 : xs = ys <;> simp [h, h2]
theorem eqOk_fr (q : Rat) : eqOk (fr q) := ⟨rfl, by show max 0 (max 0 0) + 1 ≤ 64; decide⟩
theorem deq_fr (p q : Rat) : deq (fr p) (fr q) = decide (p = q) := by
  show ((p.num == q.num) && (((p.den : Int) == (q.den : Int)) && true)) = _
  by_cases h : p = q
  · subst h; simp
  · rw [decide_eq_false h]
    cases e1 : p.num == q.num with
    | false => rfl
    | true =>
      cases e2 : ((p.den : Int) == (q.den : Int)) with
      | false => rfl
      | true =>
        exfalso
        have e1 : p.num = q.num := by simpa using e1
        have e2 : p.den = q.den := by
          have : (p.den : Int) = (q.den : Int) := by simpa using e2
          omega
        exact h (Rat.ext e1 e2)
theorem ne_fr {p q : Rat} {P : D → Prop} (h : P (.bl (!decide (p = q)))) : fEqB true (fr p) (fr q) P := by
  show eqOk (fr p) ∧ eqOk (fr q) ∧ P (.bl (true ^^ deq (fr p) (fr q)))
  rw [deq_fr]
  refine ⟨eqOk_fr p, eqOk_fr q, ?_⟩
  simpa using h
end AU

/-! AuPq: plain laws: schemes. -/
namespace AU
open PySem L2 PySem.Spec PyProof.Rows
abbrev Sch : Type := Int × Int × Int × Int
abbrev schD (s : Sch) : D := .tup [.int s.1, .int s.2.1, .int s.2.2.1, .int s.2.2.2]
structure okS (s : Sch) : Prop where
  a : 0 ≤ s.1 ∧ s.1 ≤ 5
  b : 0 ≤ s.2.1 ∧ s.2.1 ≤ 5
  c : 0 ≤ s.2.2.1 ∧ s.2.2.1 ≤ 5
  d : 0 ≤ s.2.2.2 ∧ s.2.2.2 ≤ 5
def colS (c : Bool) : Str := if c = true then "red" else "blue"
theorem colS_red : ∀ c : Bool, (colS c = "red") = (c = true) := by
  intro c
  cases c
  · simp only [colS, if_neg Bool.false_ne_true, eq_iff_iff]
    exact ⟨fun h => absurd h blue_red, fun h => by cases h⟩
  · simp [colS]
theorem colS_blue : ∀ c : Bool, (colS c = "blue") = (c = false) := by
  intro c
  cases c
  · simp [colS]
  · simp only [colS, if_pos, eq_iff_iff]
    exact ⟨fun h => absurd h red_blue, fun h => by cases h⟩
abbrev rowT (row : List Bool) : D := .tup (row.map fun c => .str (colS c))
def advR (s : Sch) (c : Bool) (r : Int) : Int := if c = true then r + s.1 else r + s.2.2.1
def advB (s : Sch) (c : Bool) (b : Int) : Int := if c = true then b + s.2.1 else b + s.2.2.2
def Sv (s : Sch) : List Bool → Int → Int → Rat
  | [], _, _ => 1
  | c :: row, r, b => ((if c = true then r else b : Int) : Rat) / ((r + b : Int) : Rat) * Sv s row (advR s c r) (advB s c b)
theorem adv_off (s : Sch) (c : Bool) (r x : Int) : advR s c (r + x) = r + advR s c x ∧ advB s c (r + x) = r + advB s c x := by
  unfold advR advB
  cases c <;> simp <;> omega
theorem adv_bd {s : Sch} (h : okS s) (c : Bool) {x y : Int} (hx : 0 ≤ x) (hy : 0 ≤ y) : 0 ≤ advR s c x ∧ 0 ≤ advB s c y ∧ advR s c x + advB s c y ≤ x + y + 10 := by
  have := h.a
  have := h.b
  have := h.c
  have := h.d
  unfold advR advB
  cases c <;> simp <;> omega
/-! ### what is no scheme, no row -/
def smallI : D → Bool
  | .int i => decide (0 ≤ i) && decide (i ≤ 5)
  | _ => false
def schemeB : D → Bool
  | .tup l => decide (l.length = 4) && l.all smallI
  | _ => false
def knL (d : D) : Prop := known d = true ∧ ∀ l, d = .tup l → l.length ≤ 1000 ∧ l.all known = true
def S_check_scheme : Spec := fun ds P Ex => ∃ d, ds = [d] ∧ knL d ∧ if schemeB d = true then P .non else Ex "BadScheme"
theorem p_check_scheme : ∀ ds Q Ex, S_check_scheme ds Q Ex → t_check_scheme S_is_whole (startD 2 ds) (endsOf Q Ex) := by
  rintro _ Q Ex ⟨d, rfl, ⟨hk, hl⟩, h⟩
  cases d with
  | tup l =>
    obtain ⟨h1, h2⟩ := hl l rfl
    simp [t_check_scheme]
    by_cases h4 : l.length = 4
    · rw [if_pos (show (l.length : Int) = 4 by omega)]
      refine lcN_map (fun d => .bl (smallI d)) l [] _ (by simp; omega) (fun d hd R hR => ?_) ⟨l.map smallI, ?_, ?_⟩
      · simp
        refine ⟨d, rfl, List.all_eq_true.mp h2 d hd, ?_⟩
        cases d with
        | int i =>
          simp [isWhole, smallI] at hR ⊢
          by_cases h0 : 0 ≤ i
          · simpa [h0] using hR
          · simpa [h0] using hR
        | _ => simp [isWhole, smallI] at hR ⊢; exact hR
      · rw [List.nil_append, ← bools_map, List.map_map]; rfl
      · rw [List.all_map]
        have e : schemeB (.tup l) = l.all smallI := by simp [schemeB, h4]
        rw [e] at h
        have e2 : l.all (id ∘ smallI) = l.all smallI := rfl
        rw [e2]
        cases hb : l.all smallI with
        | true => rw [hb] at h; simpa using h
        | false => rw [hb] at h; simpa using h
    · rw [if_neg (show ¬ (l.length : Int) = 4 by omega)]
      have e : schemeB (.tup l) = false := by simp [schemeB, h4]
      rw [e] at h
      simpa using h
  | _ => first | (simp [t_check_scheme]; exact h) | (simp at hk)
def colB : D → Bool
  | .str x => decide (x = "red") || decide (x = "blue")
  | _ => false
def rowB : D → Bool
  | .tup l => decide (l.length ≤ 8) && l.all colB
  | _ => false
theorem col_in (x : Str) : inL (.str x) [.str "red", .str "blue"] = colB (.str x) := by
  show ((("red" : Str) == x) || ((("blue" : Str) == x) || false)) = _
  have e : ∀ y : Str, (y == x) = decide (x = y) := fun y => by
    by_cases h : x = y
    · subst h; simp
    · have h' : ¬ y = x := fun z => h z.symm
      simp [h, h']
  rw [e, e, Bool.or_false]
  rfl
def S_check_row : Spec := fun ds P Ex => ∃ d, ds = [d] ∧ knL d ∧ if rowB d = true then P .non else Ex "BadScheme"
theorem p_check_row : ∀ ds Q Ex, S_check_row ds Q Ex → t_check_row (startD 2 ds) (endsOf Q Ex) := by
  rintro _ Q Ex ⟨d, rfl, ⟨hk, hl⟩, h⟩
  cases d with
  | tup l =>
    obtain ⟨h1, h2⟩ := hl l rfl
    simp [t_check_row]
    by_cases h8 : l.length ≤ 8
    · rw [if_neg (show ¬ 8 < (l.length : Int) by omega)]
      refine lcN_map (fun d => .bl (colB d)) l [] _ (by simp; omega) (fun d hd R hR => ?_) ⟨l.map colB, ?_, ?_⟩
      · simp
        refine ⟨by simpa using List.all_eq_true.mp h2 d hd, ?_⟩
        cases d with
        | str x =>
          simp [col_in]
          exact hR
        | _ => simp [colB] at hR ⊢; exact hR
      · rw [List.nil_append, ← bools_map, List.map_map]; rfl
      · rw [List.all_map]
        have e : rowB (.tup l) = l.all colB := by simp [rowB, h8]
        rw [e] at h
        have e2 : l.all (id ∘ colB) = l.all colB := rfl
        rw [e2]
        cases hb : l.all colB with
        | true => rw [hb] at h; simpa using h
        | false => rw [hb] at h; simpa using h
    · rw [if_pos (show 8 < (l.length : Int) by omega)]
      have e : rowB (.tup l) = false := by simp [rowB, h8]
      rw [e] at h
      simpa using h
  | _ => first | (simp [t_check_row]; exact h) | (simp at hk)
/-! ### the chance that draws show colours -/
theorem prodR_ok {dd ee ll : Nat} {u t : Tm} {s : Int} {qs : List Int} {P : D → Prop} {Ex : Str → Prop} (hu : Cha 1 10 1 u [s]) (ht : Cha dd ee ll t qs) (hD : dd < 23) (hE : ee ≤ 2900) (hL : ll ≤ 900)
    (h : ∀ w rs, Cha (dd + 1) (ee + 10) (ll + 1) w rs → rs.Perm ([s] ++ qs) → (∀ r b, ev w r b = ev u r b * ev t r b) → P (.ch w rs)) : S_mul [.ch t qs, .ch u [s]] P Ex := by
  refine mul_ok ⟨t, u, qs, [s], dd, ee, ll, 1, 10, 1, rfl, ht, hu, by omega, by omega, by omega, by omega, fun w rs hw cw hp he => ?_⟩
  have hp' : rs.Perm ([s] ++ qs) := hp.trans List.perm_append_comm
  refine h w rs ⟨hw, cw, ?_, fun p hp2 => ?_⟩ hp' fun r b => by rw [he, Int.mul_comm]
  · have := ht.len
    rw [hp'.length_eq, List.length_append]
    simp
    omega
  · rcases List.mem_append.mp (hp'.mem_iff.mp hp2) with h1 | h1
    · exact hu.sm p h1
    · exact ht.sm p h1
abbrev okU : Int → Int → Prop := fun r b => 1 ≤ r + b
theorem shown_loop {S1 : Spec} {s : Sch} {c1 : Cell} {k : EndsD} (hs : okS s) : ∀ (row : List Bool) (n : Nat) (t : Tm) (ps : List Int) (V : Int → Int → Rat) (x y : Int) (c3 c6 : Cell), n + row.length ≤ 8 → Cha n (10 * n) n t ps → Val okU V t ps → 0 ≤ x → 0 ≤ y → x + y ≤ 10 * n →
    (∀ t' ps' c3 c4 c5 c6, Cha (n + row.length) (10 * (n + row.length)) (n + row.length) t' ps' → Val okU (fun r b => V r b * Sv s row (r + x) (b + y)) t' ps' → (∀ p ∈ ps, p ∈ ps') → (row ≠ [] → (x + y) ∈ ps') → k.nx [.fz (schD s), c1, .fz (.ch t' ps'), c3, c4, c5, c6]) →
    forN (dgN 3) (b1_shown S1 S_mul S_factor) (row.map fun c => .str (colS c)) [.fz (schD s), c1, .fz (.ch t ps), c3, .fz (.int x), .fz (.int y), c6] k
  | [], n, t, ps, V, x, y, c3, c6, hn, ht, hv, hx, hy, hxy, h => h t ps c3 _ _ c6 ht (hv.congr (fun _ _ z => z) fun r b _ => by simp only [Sv]; grind) (fun _ z => z) (fun z => absurd rfl z)
  | c :: row, n, t, ps, V, x, y, c3, c6, hn, ht, hv, hx, hy, hxy, h => by
    rw [List.length_cons] at hn h
    obtain ⟨a1, a2, a3⟩ := adv_bd hs c hx hy
    have ha := hs.a
    have hb := hs.b
    have hc := hs.c
    have hd := hs.d
    rw [List.map_cons]
    unfold forN
    simp [b1_shown, fOwn]
    refine ⟨colS c, x, y, rfl, by omega, by omega, by omega, fun u hu eu => ⟨rfl, rfl, ?_⟩⟩
    refine prodR_ok hu ht (by omega) (by omega) (by omega) fun w rs hw hp he => ?_
    have hv2 : Val okU (fun r b => ((if c = true then r + x else b + y : Int) : Rat) / ((r + b + (x + y) : Int) : Rat) * V r b) w rs := by
      refine Val.mul (s := x + y) (F := fun r b => if c = true then r + x else b + y) hv (fun r b => by rw [eu]; simp only [colS_red]) (fun r b z => ?_) (fun r b z => z) he hp
      have z : 1 ≤ r + b := z
      omega
    have next : ∀ x' y', x' = advR s c x → y' = advB s c y → ∀ c3 c6, forN (dgN 3) (b1_shown S1 S_mul S_factor) (row.map fun c => .str (colS c)) [.fz (schD s), c1, .fz (.ch w rs), c3, .fz (.int x'), .fz (.int y'), c6] k := by
      rintro _ _ rfl rfl c3 c6
      refine shown_loop (S1 := S1) hs row (n + 1) w rs _ _ _ c3 c6 (by omega) (hw.mono (Nat.le_refl _) (by omega) (Nat.le_refl _)) hv2 a1 a2 (by omega) fun t' ps' c3 c4 c5 c6 ht' hv' hm' hx' => ?_
      refine h t' ps' c3 c4 c5 c6 (ht'.mono (by omega) (by omega) (by omega)) (hv'.congr (fun _ _ z => z) fun r b _ => ?_) (fun p hp' => hm' p (hp.mem_iff.mpr (List.mem_append.mpr (.inr hp')))) (fun _ => hm' _ (hp.mem_iff.mpr (by simp)))
      have e1 := (adv_off s c r x).1
      have e2 := (adv_off s c b y).2
      simp only [Sv]
      rw [e1, e2, show r + x + (b + y) = r + b + (x + y) by omega]
      grind
    cases c with
    | true =>
      rw [if_pos (by rw [colS_red])]
      exact next _ _ (by simp [advR]) (by simp [advB]) _ _
    | false =>
      rw [if_neg (by rw [colS_red]; exact Bool.false_ne_true)]
      exact next _ _ (by simp [advR]) (by simp [advB]) _ _
structure ShV (s : Sch) (row : List Bool) (t : Tm) (ps : List Int) : Prop where
  cha : Cha row.length (10 * row.length) row.length t ps
  val : Val okU (Sv s row) t ps
  zer : row ≠ [] → (0 : Int) ∈ ps
def S_shown : Spec := fun ds P _ => ∃ (s : Sch) (row : List Bool), ds = [schD s, rowT row] ∧ okS s ∧ row.length ≤ 8 ∧ ∀ t ps, ShV s row t ps → P (.ch t ps)
theorem p_shown : ∀ ds Q Ex, S_shown ds Q Ex → t_shown S_Chance S_mul S_factor (startD 7 ds) (endsOf Q Ex) := by
  rintro _ Q Ex ⟨s, row, rfl, hs, hr, h⟩
  simp [t_shown]
  refine mk_one fun u h0 v0 => ?_
  refine shown_loop (S1 := S_Chance) hs row 0 u [] (fun _ _ => 1) 0 0 _ _ (by omega) h0 (v0 _) (by omega) (by omega) (by omega) fun t ps c3 c4 c5 c6 ht hv _ hz => ?_
  simp
  rw [Nat.zero_add] at ht
  refine h t ps ⟨ht, hv.congr (fun _ _ z => z) fun r b _ => ?_, hz⟩
  rw [Int.add_zero, Int.add_zero]
  grind
end AU

/-! AuPr: plain laws: schemes whose order matters. -/
namespace AU
open PySem L2 PySem.Spec PyProof.Rows
def pairI (s : Sch) : List Bool → Int → Int → Int → Int → Int × Int
  | [], _, _, top, bot => (top, bot)
  | c :: row, r, b, top, bot => pairI s row (advR s c r) (advB s c b) (top * (if c = true then r else b)) (bot * (r + b))
theorem pair_val {s : Sch} (hs : okS s) : ∀ (row : List Bool) (r b top bot : Int), 0 ≤ r → 0 ≤ b → 1 ≤ r + b → 0 < bot → 0 < (pairI s row r b top bot).2 ∧ ((pairI s row r b top bot).1 : Rat) / ((pairI s row r b top bot).2 : Rat) = (top : Rat) / (bot : Rat) * Sv s row r b
  | [], r, b, top, bot, _, _, _, hb => ⟨hb, by simp only [pairI, Sv]; grind⟩
  | c :: row, r, b, top, bot, h0, h1, h2, hb => by
    obtain ⟨a1, a2, a3⟩ := adv_bd hs c h0 h1
    have ha := hs.a
    have hb' := hs.b
    have hc := hs.c
    have hd := hs.d
    have a4 : 1 ≤ advR s c r + advB s c b := by unfold advR advB; cases c <;> simp <;> omega
    have ih := pair_val hs row (advR s c r) (advB s c b) (top * (if c = true then r else b)) (bot * (r + b)) a1 a2 a4 (Int.mul_pos hb (by omega))
    refine ⟨ih.1, ?_⟩
    simp only [pairI, Sv]
    rw [ih.2, Rat.intCast_mul, Rat.intCast_mul]
    have z1 : ((r + b : Int) : Rat) ≠ 0 := by
      intro z
      have : r + b = 0 := by exact_mod_cast z
      omega
    have z2 : (bot : Rat) ≠ 0 := by
      intro z
      have : bot = 0 := by exact_mod_cast z
      omega
    generalize ((if c = true then r else b : Int) : Rat) = x
    grind
theorem cross {a b c d : Int} (hb : 0 < b) (hd : 0 < d) : (a : Rat) / (b : Rat) = (c : Rat) / (d : Rat) ↔ a * d = c * b := by
  have := Rat.divInt_eq_divInt_iff (n₁ := a) (n₂ := c) (show b ≠ 0 by omega) (show d ≠ 0 by omega)
  rw [Rat.divInt_eq_div, Rat.divInt_eq_div] at this
  exact this
def unlP (p q : Int × Int) : Bool := decide (p.1 * q.2 ≠ q.1 * p.2)
theorem unl_iff {s : Sch} (hs : okS s) {row row' : List Bool} {r b : Int} (h0 : 0 ≤ r) (h1 : 0 ≤ b) (h2 : 1 ≤ r + b) : unlP (pairI s row r b 1 1) (pairI s row' r b 1 1) = !decide (Sv s row r b = Sv s row' r b) := by
  obtain ⟨p1, e1⟩ := pair_val hs row r b 1 1 h0 h1 h2 (by decide)
  obtain ⟨p2, e2⟩ := pair_val hs row' r b 1 1 h0 h1 h2 (by decide)
  have o : ((1 : Int) : Rat) / ((1 : Int) : Rat) = 1 := by decide +kernel
  rw [o, Rat.one_mul] at e1 e2
  have := cross (a := (pairI s row r b 1 1).1) (c := (pairI s row' r b 1 1).1) p1 p2
  rw [e1, e2] at this
  unfold unlP
  by_cases h : Sv s row r b = Sv s row' r b
  · rw [decide_eq_true h]
    have := this.mp h
    simp [this]
  · rw [decide_eq_false h]
    have : ¬ _ := fun z => h (this.mpr z)
    simpa using this
def unl (s : Sch) (r b : Int) : Bool := unlP (pairI s [true, false] r b 1 1) (pairI s [false, true] r b 1 1)
def four : List Int := [0, 1, 2, 3]
def orderless (s : Sch) : Bool := four.all fun r => four.all fun b => !unl s r (b + 1)
/-! ### == of chances -/
def S_ceq : Spec := fun ds P Ex => ∃ a b, ds = [a, b] ∧ (isCh b = true ∧ S_are_same [a, b] P Ex ∨ known b = true ∧ P (.bl false))
theorem p_ceq : ∀ ds Q Ex, S_ceq ds Q Ex → t_Chance___eq__ S_are_same (startD 2 ds) (endsOf Q Ex) := by
  rintro _ Q Ex ⟨a, b, rfl, h⟩
  rcases h with ⟨hc, h⟩ | ⟨hk, h⟩
  · cases b with
    | ch t ps =>
      simp [t_Chance___eq__]
      exact h
    | _ => cases hc
  · cases b <;> first | (simp [t_Chance___eq__]; exact h) | (simp at hk)
theorem Sv_pos {s : Sch} {row : List Bool} {t : Tm} {ps : List Int} (h : ShV s row t ps) {r b : Int} (hr : 1 ≤ r + b) : (ev t r b : Rat) = Sv s row r b * (prodP ps r b : Rat) ∧ 0 < prodP ps r b := ⟨h.val.val r b hr, prod_pos (h.val.pos r b hr)⟩
theorem orders_same {s : Sch} (hs : okS s) {t o : Tm} {ps qs : List Int} (h1 : ShV s [true, false] t ps) (h2 : ShV s [false, true] o qs) {P : D → Prop} {Ex : Str → Prop} (hP : P (.bl (orderless s))) : S_are_same [.ch t ps, .ch o qs] P Ex := by
  have z1 := h1.zer (by simp)
  have z2 := h2.zer (by simp)
  have m1 := lackL_lt z1 z2
  have m2 := lackL_lt z2 z1
  have l1 := h1.cha.len
  have l2 := h2.cha.len
  simp at l1 l2
  refine ⟨t, o, ps, qs, 2, 20, 2, 2, 20, 2, 3, 30, rfl, h1.cha, h2.cha, by decide, by decide, by omega, by omega, by omega, by omega, by decide, by decide, fun u v hu cu hv cv eu ev' => ?_⟩
  have key : ∀ r b : Int, 1 ≤ r + b → (ev u r b = ev v r b ↔ Sv s [true, false] r b = Sv s [false, true] r b) := by
    intro r b hr
    obtain ⟨a1, a2⟩ := Sv_pos h1 hr
    obtain ⟨b1, b2⟩ := Sv_pos h2 hr
    have c1 : 0 < prodP (lackL ps qs) r b := prod_pos fun p hp => h2.val.pos r b hr p (lackL_mem hp)
    have e1 : prodP ps r b * prodP (lackL ps qs) r b = prodP qs r b * prodP (lackL qs ps) r b := by rw [← prodP_app, ← prodP_app, prodP_perm (lackL_perm ps qs)]
    have e2 : (prodP ps r b : Rat) * (prodP (lackL ps qs) r b : Rat) = (prodP qs r b : Rat) * (prodP (lackL qs ps) r b : Rat) := by rw [← Rat.intCast_mul, ← Rat.intCast_mul, e1]
    have f1 : (ev u r b : Rat) = Sv s [true, false] r b * ((prodP ps r b : Rat) * (prodP (lackL ps qs) r b : Rat)) := by rw [eu, Rat.intCast_mul, a1]; grind
    have f2 : (ev v r b : Rat) = Sv s [false, true] r b * ((prodP ps r b : Rat) * (prodP (lackL ps qs) r b : Rat)) := by rw [ev', Rat.intCast_mul, b1, e2]; grind
    have nz : (prodP ps r b : Rat) * (prodP (lackL ps qs) r b : Rat) ≠ 0 := by
      rw [← Rat.intCast_mul]
      have := Int.mul_pos a2 c1
      intro z
      have : prodP ps r b * prodP (lackL ps qs) r b = 0 := by exact_mod_cast z
      omega
    generalize (prodP ps r b : Rat) * (prodP (lackL ps qs) r b : Rat) = M at *
    constructor
    · intro e
      have : (ev u r b : Rat) = (ev v r b : Rat) := by rw [e]
      rw [f1, f2] at this
      grind
    · intro e
      have : (ev u r b : Rat) = (ev v r b : Rat) := by rw [f1, f2, e]
      exact_mod_cast this
  have e : decide (u = v) = orderless s := by
    have mem4 : ∀ x ∈ four, 0 ≤ x ∧ x ≤ 3 := by decide
    by_cases h : u = v
    · rw [decide_eq_true h]
      symm
      unfold orderless
      rw [List.all_eq_true]
      intro r hr
      rw [List.all_eq_true]
      intro b hb
      obtain ⟨r0, _⟩ := mem4 r hr
      obtain ⟨b0, _⟩ := mem4 b hb
      unfold unl
      rw [unl_iff hs r0 (by omega) (by omega), decide_eq_true ((key r (b + 1) (by omega)).mp (by rw [h]))]
      rfl
    · rw [decide_eq_false h]
      symm
      cases ho : orderless s with
      | false => rfl
      | true =>
        exfalso
        refine h (forms_eq hu cu hv cv four [1, 2, 3, 4] (by decide) (by decide) rfl rfl fun r hr b hb => ?_)
        obtain ⟨r0, _⟩ := mem4 r hr
        have hb' : b - 1 ∈ four := by
          simp only [List.mem_cons, List.not_mem_nil, or_false] at hb
          unfold four
          rcases hb with rfl | rfl | rfl | rfl <;> decide
        obtain ⟨b0, _⟩ := mem4 _ hb'
        unfold orderless at ho
        have := List.all_eq_true.mp (List.all_eq_true.mp ho r hr) (b - 1) hb'
        rw [show b - 1 + 1 = b by omega] at this
        unfold unl at this
        rw [unl_iff hs r0 (by omega) (by omega)] at this
        refine (key r b (by omega)).mpr ?_
        simpa using this
  rw [e]
  exact hP
end AU

/-! AuPs: plain laws: schemes looked at. -/
namespace AU
open PySem L2 PySem.Spec PyProof.Rows
theorem sch_knL {s : Sch} : knL (schD s) := ⟨rfl, fun l e => by cases e; exact ⟨by simp, by simp⟩⟩
theorem sch_B {s : Sch} (h : okS s) : schemeB (schD s) = true := by
  have := h.a
  have := h.b
  have := h.c
  have := h.d
  simp [schemeB, smallI]
  omega
theorem scheme_ok {s : Sch} {P : D → Prop} {Ex : Str → Prop} (h : okS s) (hP : P .non) : S_check_scheme [schD s] P Ex := ⟨_, rfl, sch_knL, by rw [if_pos (sch_B h)]; exact hP⟩
theorem row_knL {row : List Bool} (h : row.length ≤ 1000) : knL (rowT row) := ⟨rfl, fun l e => by
  cases e
  refine ⟨by simpa using h, ?_⟩
  rw [List.all_map, List.all_eq_true]
  intro _ _
  rfl⟩
theorem row_B {row : List Bool} (h : row.length ≤ 8) : rowB (rowT row) = true := by
  show (decide ((row.map fun c => D.str (colS c)).length ≤ 8) && (row.map fun c => D.str (colS c)).all colB) = true
  rw [List.length_map, decide_eq_true h, List.all_map, Bool.true_and, List.all_eq_true]
  intro c _
  show (decide (colS c = "red") || decide (colS c = "blue")) = true
  simp only [colS_red, colS_blue]
  cases c <;> rfl
def S_row_chance : Spec := fun ds P Ex => ∃ a b, ds = [a, b] ∧ S_check_scheme [a] (fun _ => S_check_row [b] (fun _ => S_shown [a, b] P Ex) Ex) Ex
theorem p_row_chance : ∀ ds Q Ex, S_row_chance ds Q Ex → t_row_chance S_check_scheme S_check_row S_shown (startD 2 ds) (endsOf Q Ex) := by
  rintro _ Q Ex ⟨a, b, rfl, h⟩
  simp [t_row_chance]
  exact h
theorem row_ok {s : Sch} {row : List Bool} {P : D → Prop} {Ex : Str → Prop} (hs : okS s) (hr : row.length ≤ 8) (h : ∀ t ps, ShV s row t ps → P (.ch t ps)) : S_row_chance [schD s, rowT row] P Ex :=
  ⟨_, _, rfl, scheme_ok hs ⟨_, rfl, row_knL (by omega), by rw [if_pos (row_B hr)]; exact ⟨s, row, rfl, hs, hr, h⟩⟩⟩
theorem row_bad1 {d e : D} {P : D → Prop} {Ex : Str → Prop} (hk : knL d) (hb : schemeB d = false) (h : Ex "BadScheme") : S_row_chance [d, e] P Ex :=
  ⟨_, _, rfl, _, rfl, hk, by rw [hb, if_neg Bool.false_ne_true]; exact h⟩
theorem row_bad2 {s : Sch} {e : D} {P : D → Prop} {Ex : Str → Prop} (hs : okS s) (hk : knL e) (hb : rowB e = false) (h : Ex "BadScheme") : S_row_chance [schD s, e] P Ex :=
  ⟨_, _, rfl, scheme_ok hs ⟨_, rfl, hk, by rw [hb, if_neg Bool.false_ne_true]; exact h⟩⟩
def S_both_orders : Spec := fun ds P _ => ∃ s : Sch, ds = [schD s] ∧ okS s ∧ ∀ t ps o qs, ShV s [true, false] t ps → ShV s [false, true] o qs → P (.tup [.ch t ps, .ch o qs])
theorem p_both_orders : ∀ ds Q Ex, S_both_orders ds Q Ex → t_both_orders S_shown (startD 1 ds) (endsOf Q Ex) := by
  rintro _ Q Ex ⟨s, rfl, hs, h⟩
  simp [t_both_orders]
  refine ⟨s, [true, false], rfl, hs, by decide, fun t ps h1 => ?_⟩
  refine ⟨s, [false, true], rfl, hs, by decide, fun o qs h2 => ?_⟩
  exact h t ps o qs h1 h2
def S_is_orderless : Spec := fun ds P _ => ∃ s : Sch, ds = [schD s] ∧ okS s ∧ P (.bl (orderless s))
theorem p_is_orderless : ∀ ds Q Ex, S_is_orderless ds Q Ex → t_is_orderless S_ceq S_check_scheme S_both_orders (startD 3 ds) (endsOf Q Ex) := by
  rintro _ Q Ex ⟨s, rfl, hs, h⟩
  simp [t_is_orderless]
  refine scheme_ok hs ⟨s, rfl, hs, fun t ps o qs h1 h2 => ?_⟩
  simp [fOwn]
  exact ⟨rfl, rfl, _, _, rfl, .inl ⟨rfl, orders_same hs h1 h2 h⟩⟩
/-! ### the least urn -/
def rowF (s : Sch) (n : Int) : Nat → Int → Option (Int × Int)
  | 0, _ => none
  | k + 1, r => if unl s r (n - r) = true then some (r, n - r) else rowF s n k (r + 1)
def searchB (s : Sch) : Nat → Int → Option (Int × Int)
  | 0, _ => none
  | f + 1, n => match rowF s n (n + 1).toNat 0 with
    | some q => some q
    | none => searchB s f (n + 1)
def urnD : Option (Int × Int) → D
  | some q => .tup [.int q.1, .int q.2]
  | none => .non
def allS : List Sch := ([0, 1, 2, 3, 4, 5] : List Int).flatMap fun a => ([0, 1, 2, 3, 4, 5] : List Int).flatMap fun b => ([0, 1, 2, 3, 4, 5] : List Int).flatMap fun c => ([0, 1, 2, 3, 4, 5] : List Int).map fun d => (a, b, c, d)
theorem six {x : Int} (h : 0 ≤ x ∧ x ≤ 5) : x ∈ ([0, 1, 2, 3, 4, 5] : List Int) := by
  have : x = 0 ∨ x = 1 ∨ x = 2 ∨ x = 3 ∨ x = 4 ∨ x = 5 := by omega
  rcases this with rfl | rfl | rfl | rfl | rfl | rfl <;> decide
theorem okS.mem {s : Sch} (h : okS s) : s ∈ allS := by
  unfold allS
  refine List.mem_flatMap.mpr ⟨_, six h.a, List.mem_flatMap.mpr ⟨_, six h.b, List.mem_flatMap.mpr ⟨_, six h.c, List.mem_map.mpr ⟨_, six h.d, rfl⟩⟩⟩⟩
theorem least_all : (allS.all fun s => (searchB s 7 1).isNone == orderless s) = true := by decide +kernel
theorem least_some {s : Sch} (hs : okS s) : (searchB s 7 1).isNone = orderless s := by simpa using List.all_eq_true.mp least_all s hs.mem
theorem at_sh {s : Sch} {row : List Bool} {t : Tm} {ps : List Int} {r b : Int} {P : D → Prop} {Ex : Str → Prop} (h : ShV s row t ps) (hr : row.length ≤ 8) (h0 : 0 ≤ r) (h1 : 0 ≤ b) (h2 : 1 ≤ r + b) (h3 : r + b ≤ 1000) (hP : P (fr (Sv s row r b))) : S_at [.ch t ps, .int r, .int b] P Ex := by
  obtain ⟨a1, a2⟩ := h.val.at_ (r := r) (b := b) h2
  have bd62 : ∀ x : Int, 0 ≤ x → x ≤ 1000 → bd 62 x := fun x _ _ => by unfold bd; omega
  exact ⟨t, ps, r, b, _, _, _, rfl, h.cha, by omega, by omega, by omega, bd62 r h0 (by omega), bd62 b h1 (by omega), fun _ => by rw [a2]; exact hP, fun z => absurd z a1⟩
theorem rangeD_succ (lo : Int) (n : Nat) : rangeD lo (n + 1) = .int lo :: rangeD (lo + 1) n := by
  unfold rangeD
  rw [List.range_succ_eq_map, List.map_cons, List.map_map]
  congr 1
  · simp
  · apply List.map_congr_left
    intro i _
    show D.int (lo + ((i + 1 : Nat) : Int)) = D.int (lo + 1 + (i : Int))
    congr 1
    omega
theorem os_row {S1 S2 : Spec} {s : Sch} {t o : Tm} {ps qs : List Int} {n : Int} {c0 : Cell} {k : EndsD} (hs : okS s) (h1 : ShV s [true, false] t ps) (h2 : ShV s [false, true] o qs) (hn : 1 ≤ n) (hn2 : n ≤ 1000) : ∀ (m : Nat) (r : Int) (c4 : Cell), 0 ≤ r → r + m = n + 1 →
    (match rowF s n m r with
      | some q => k.rt (.tup [.int q.1, .int q.2])
      | none => ∀ c4, k.nx [c0, .fz (.int n), .fz (.ch t ps), .fz (.ch o qs), c4]) →
    forN (dgN 4) (b1_order_shown S_at S_ceq S1 S2) (rangeD r m) [c0, .fz (.int n), .fz (.ch t ps), .fz (.ch o qs), c4] k
  | 0, r, c4, h0, hr, h => h c4
  | m + 1, r, c4, h0, hr, h => by
    rw [rangeD_succ]
    unfold forN
    simp [b1_order_shown]
    refine ⟨rfl, at_sh h1 (by decide) h0 (by omega) (by omega) (by omega) ⟨rfl, at_sh h2 (by decide) h0 (by omega) (by omega) (by omega) ?_⟩⟩
    refine ⟨eqOk_fr _, eqOk_fr _, ?_⟩
    rw [deq_fr]
    have hu : unl s r (n - r) = !decide (Sv s [true, false] r (n - r) = Sv s [false, true] r (n - r)) := unl_iff hs h0 (by omega) (by omega)
    unfold rowF at h
    rw [hu] at h
    by_cases e : Sv s [true, false] r (n - r) = Sv s [false, true] r (n - r)
    · rw [decide_eq_true e] at h ⊢
      simp at h ⊢
      exact os_row (S1 := S1) (S2 := S2) hs h1 h2 hn hn2 m (r + 1) _ (by omega) (by omega) h
    · rw [decide_eq_false e] at h ⊢
      simp at h ⊢
      exact h
theorem os_loop {S1 S2 : Spec} {s : Sch} {t o : Tm} {ps qs : List Int} {c0 : Cell} {k : EndsD} (hs : okS s) (h1 : ShV s [true, false] t ps) (h2 : ShV s [false, true] o qs) : ∀ (f : Nat) (n : Int) (c4 : Cell) (q : Int × Int), 1 ≤ n → n + f ≤ 900 → searchB s f n = some q → k.rt (urnD (some q)) →
    whileN (b2_order_shown S_at S_ceq S1 S2) (b3_order_shown S_at S_ceq S1 S2) (f + 1) [c0, .fz (.int n), .fz (.ch t ps), .fz (.ch o qs), c4] k
  | 0, n, c4, q, _, _, h, _ => by cases h
  | f + 1, n, c4, q, hn, hf, h, hk => by
    unfold whileN
    simp [b2_order_shown, b3_order_shown]
    refine ⟨by omega, by omega, ?_⟩
    refine os_row (S1 := S1) (S2 := S2) hs h1 h2 hn (by omega) (n + 1).toNat 0 _ (by omega) (by omega) ?_
    unfold searchB at h
    cases e : rowF s n (n + 1).toNat 0 with
    | some q' =>
      rw [e] at h
      cases h
      exact hk
    | none =>
      rw [e] at h
      intro c4
      simp
      exact os_loop hs h1 h2 f (n + 1) _ q (by omega) (by omega) h hk
def S_order_shown : Spec := fun ds P _ => ∃ s : Sch, ds = [schD s] ∧ okS s ∧ P (urnD (searchB s 7 1))
theorem p_order_shown : ∀ ds Q Ex, S_order_shown ds Q Ex → t_order_shown S_at S_ceq S_check_scheme S_both_orders (startD 5 ds) (endsOf Q Ex) := by
  rintro _ Q Ex ⟨s, rfl, hs, h⟩
  have hl := least_some hs
  simp [t_order_shown]
  refine scheme_ok hs ⟨s, rfl, hs, fun t ps o qs h1 h2 => ?_⟩
  simp [fOwn]
  refine ⟨rfl, rfl, _, _, rfl, .inl ⟨rfl, orders_same hs h1 h2 ?_⟩⟩
  cases ho : orderless s with
  | true =>
    rw [ho] at hl
    have : searchB s 7 1 = none := Option.isNone_iff_eq_none.mp hl
    rw [this] at h
    simpa [urnD] using h
  | false =>
    rw [ho] at hl
    cases e : searchB s 7 1 with
    | none => rw [e] at hl; cases hl
    | some q =>
      rw [e] at h
      simp
      exact ⟨7 + 1, os_loop hs h1 h2 7 1 _ q (by omega) (by omega) e h⟩
end AU

/-! AuPt: plain laws: the law's own rows of colours. -/
namespace AU
open PySem L2 PySem.Spec PyProof.Rows
def rowsB : Nat → List (List Bool)
  | 0 => [[]]
  | n + 1 => (rowsB n).flatMap fun row => [row ++ [true], row ++ [false]]
theorem rowsB_len : ∀ n, ∀ row ∈ rowsB n, row.length = n
  | 0, row, h => by rw [List.mem_singleton.mp h]; rfl
  | n + 1, row, h => by
    obtain ⟨r, hr, h⟩ := List.mem_flatMap.mp h
    have := rowsB_len n r hr
    simp at h
    rcases h with rfl | rfl <;> simp [this]
theorem rowsB_many : ∀ n, (rowsB n).length = 2 ^ n
  | 0 => rfl
  | n + 1 => by
    have : ∀ l : List (List Bool), (l.flatMap fun row => [row ++ [true], row ++ [false]]).length = 2 * l.length := by
      intro l
      induction l with
      | nil => rfl
      | cons x l ih => rw [List.flatMap_cons, List.length_append, ih]; simp; omega
    rw [rowsB, this, rowsB_many n, Nat.pow_succ]
    omega
def S__law_rows : Spec := fun ds P _ => ∃ n : Nat, ds = [.int n] ∧ n ≤ 8 ∧ P (.lst ((rowsB n).map rowT))
theorem colS_lit : (D.str "red" = .str (colS true)) ∧ (D.str "blue" = .str (colS false)) := ⟨rfl, rfl⟩
theorem rows_in {c0 c1 c2 : Cell} {k : EndsD} : ∀ (rows : List (List Bool)) (longer : List D) (c4 : Cell), (∀ row ∈ rows, row.length ≤ 8) → longer.length + 2 * rows.length ≤ 1000 →
    (∀ c4, k.nx [c0, c1, c2, .fz (.lst (longer ++ (rows.flatMap fun row => [row ++ [true], row ++ [false]]).map rowT)), c4]) →
    forN (dgN 4) b1__law_rows (rows.map rowT) [c0, c1, c2, .fz (.lst longer), c4] k
  | [], longer, c4, _, _, h => by
    have h := h c4
    rw [List.flatMap_nil, List.map_nil, List.append_nil] at h
    exact h
  | row :: rows, longer, c4, hr, hl, h => by
    rw [List.length_cons] at hl
    have h8 := hr row List.mem_cons_self
    rw [List.map_cons]
    unfold forN
    simp [b1__law_rows]
    refine ⟨by omega, by omega, ?_⟩
    refine rows_in rows (longer ++ [.tup (row.map (fun c => .str (colS c)) ++ [.str "red"]), .tup (row.map (fun c => .str (colS c)) ++ [.str "blue"])]) _ (fun x hx => hr x (List.mem_cons_of_mem _ hx)) (by rw [List.length_append]; simp; omega) fun c4 => ?_
    have h := h c4
    rw [List.flatMap_cons, List.map_append, ← List.append_assoc] at h
    have e : [D.tup (row.map (fun c => D.str (colS c)) ++ [.str "red"]), .tup (row.map (fun c => .str (colS c)) ++ [.str "blue"])] = [row ++ [true], row ++ [false]].map rowT := by
      simp [rowT, colS]
    rw [e]
    exact h
theorem rows_out {c0 : Cell} {k : EndsD} : ∀ (m n : Nat) (js : List D) (c2 c3 c4 : Cell), js.length = m → n + m ≤ 8 →
    (∀ c2 c3 c4, k.nx [c0, .fz (.lst ((rowsB (n + m)).map rowT)), c2, c3, c4]) → forN (dgN 2) b2__law_rows js [c0, .fz (.lst ((rowsB n).map rowT)), c2, c3, c4] k
  | 0, n, [], c2, c3, c4, _, _, h => h c2 c3 c4
  | m + 1, n, [], c2, c3, c4, hj, _, _ => by cases hj
  | 0, n, _ :: _, c2, c3, c4, hj, _, _ => by cases hj
  | m + 1, n, j :: js, c2, c3, c4, hj, hn, h => by
    have hm := rowsB_many n
    have h7 : 2 ^ n ≤ 2 ^ 7 := Nat.pow_le_pow_right (by decide) (by omega)
    unfold forN
    simp [b2__law_rows]
    refine rows_in (rowsB n) [] _ (fun row hr => by have := rowsB_len n row hr; omega) (by rw [hm]; simp; omega) fun c4 => ?_
    simp
    have e : List.map rowT ((rowsB n).flatMap fun row => [row ++ [true], row ++ [false]]) = (rowsB (n + 1)).map rowT := rfl
    have := rows_out (c0 := c0) (k := k) m (n + 1) js (.fz j) (.fz (.lst ((rowsB (n + 1)).map rowT))) c4 (by simpa using hj) (by omega) (by rw [show n + 1 + m = n + (m + 1) by omega]; exact h)
    exact this
theorem p__law_rows : ∀ ds Q Ex, S__law_rows ds Q Ex → t__law_rows (startD 5 ds) (endsOf Q Ex) := by
  rintro _ Q Ex ⟨n, rfl, hn, h⟩
  simp [t__law_rows]
  refine ⟨by omega, ?_⟩
  have := rows_out (c0 := .fz (.int n)) (k := { nx := fun ρ' => dRet (dVar 1) ρ' (endsOf Q Ex), rt := Q, bk := fun _ => False, ct := fun _ => False, ex := fun _ c => Ex c }) n 0 (rangeD 0 n) .un .un .un (rangeD_len 0 n) (by omega) (fun c2 c3 c4 => by simpa using h)
  exact this
/-! ### a row's chance, not in lowest terms -/
theorem pair_bd {s : Sch} (hs : okS s) : ∀ (row : List Bool) (r b top bot : Int) (n : Nat), 0 ≤ r → 0 ≤ b → r + b + 10 * row.length ≤ 1000 → bd n top → bd n bot → bd (n + 12 * row.length) (pairI s row r b top bot).1 ∧ bd (n + 12 * row.length) (pairI s row r b top bot).2
  | [], r, b, top, bot, n, _, _, _, h1, h2 => ⟨h1, h2⟩
  | c :: row, r, b, top, bot, n, hr, hb, hs2, h1, h2 => by
    rw [List.length_cons] at hs2
    obtain ⟨a1, a2, a3⟩ := adv_bd hs c hr hb
    have b1 : bd 12 (if c = true then r else b) := by unfold bd; split <;> omega
    have b2 : bd 12 (r + b) := by unfold bd; omega
    have ih := pair_bd hs row (advR s c r) (advB s c b) (top * (if c = true then r else b)) (bot * (r + b)) (n + 12) a1 a2 (by omega) (h1.mul b1) (h2.mul b2)
    rw [List.length_cons, show n + 12 * (row.length + 1) = n + 12 + 12 * row.length by omega]
    exact ih
theorem im20 : IntMulOk 2 0 := bd.ok (n := 3) (m := 3) (by unfold bd; decide) (by unfold bd; decide) (by decide)
theorem im21 : IntMulOk 2 1 := bd.ok (n := 3) (m := 3) (by unfold bd; decide) (by unfold bd; decide) (by decide)
theorem pair_loop {s : Sch} {c1 : Cell} {k : EndsD} (hs : okS s) : ∀ (row : List Bool) (r b top bot : Int) (n : Nat) (c6 c7 : Cell), 0 ≤ r → 0 ≤ b → r + b + 10 * row.length ≤ 1000 → bd n top → bd n bot → n + 12 * row.length ≤ 1000 →
    (∀ c2 c3 c6 c7, k.nx [.fz (schD s), c1, c2, c3, .fz (.int (pairI s row r b top bot).1), .fz (.int (pairI s row r b top bot).2), c6, c7]) →
    forN (dgN 6) b1__law_pair (row.map fun c => .str (colS c)) [.fz (schD s), c1, .fz (.int r), .fz (.int b), .fz (.int top), .fz (.int bot), c6, c7] k
  | [], r, b, top, bot, n, c6, c7, _, _, _, _, _, _, h => h _ _ c6 c7
  | c :: row, r, b, top, bot, n, c6, c7, hr, hb, hs2, h1, h2, hn, h => by
    rw [List.length_cons] at hs2 hn
    obtain ⟨a1, a2, a3⟩ := adv_bd hs c hr hb
    have b2 : bd 12 (r + b) := by unfold bd; omega
    have b1 : bd 12 (if c = true then r else b) := by unfold bd; split <;> omega
    have next : ∀ t' o' r' b', t' = top * (if c = true then r else b) → o' = bot * (r + b) → r' = advR s c r → b' = advB s c b → ∀ c6 c7, forN (dgN 6) b1__law_pair (row.map fun c => .str (colS c)) [.fz (schD s), c1, .fz (.int r'), .fz (.int b'), .fz (.int t'), .fz (.int o'), c6, c7] k := by
      rintro _ _ _ _ rfl rfl rfl rfl c6 c7
      exact pair_loop hs row _ _ _ _ (n + 12) c6 c7 a1 a2 (by omega) (h1.mul b1) (h2.mul b2) (by omega) fun c2 c3 c6 c7 => h c2 c3 c6 c7
    rw [List.map_cons]
    unfold forN
    cases c with
    | true =>
      simp at b1
      simp [b1__law_pair, colS, red_blue]
      refine ⟨h1.ok b1 (by omega), h2.ok b2 (by omega), im20, ?_⟩
      exact next (top * r) _ (r + s.1) (b + s.2.1) (by simp) rfl (by simp [advR]) (by simp [advB]) _ _
    | false =>
      simp at b1
      simp [b1__law_pair, colS, blue_red]
      refine ⟨h1.ok b1 (by omega), h2.ok b2 (by omega), im21, ?_⟩
      exact next (top * b) _ (r + s.2.2.1) (b + s.2.2.2) (by simp) rfl (by simp [advR]) (by simp [advB]) _ _
def S__law_pair : Spec := fun ds P _ => ∃ (s : Sch) (row : List Bool) (r b : Int), ds = [schD s, rowT row, .int r, .int b] ∧ okS s ∧ row.length ≤ 8 ∧ 0 ≤ r ∧ 0 ≤ b ∧ r + b ≤ 900 ∧ P (.lst [.int (pairI s row r b 1 1).1, .int (pairI s row r b 1 1).2])
theorem p__law_pair : ∀ ds Q Ex, S__law_pair ds Q Ex → t__law_pair (startD 8 ds) (endsOf Q Ex) := by
  rintro _ Q Ex ⟨s, row, r, b, rfl, hs, hl, hr, hb, hz, h⟩
  simp [t__law_pair]
  refine pair_loop hs row r b 1 1 1 _ _ hr hb (by omega) (by unfold bd; decide) (by unfold bd; decide) (by omega) fun c2 c3 c6 c7 => ?_
  simpa using h
def S__law_unlike : Spec := fun ds P _ => ∃ p q : Int × Int, ds = [.lst [.int p.1, .int p.2], .lst [.int q.1, .int q.2]] ∧ bd 1000 p.1 ∧ bd 1000 p.2 ∧ bd 1000 q.1 ∧ bd 1000 q.2 ∧ P (.bl (unlP p q))
theorem p__law_unlike : ∀ ds Q Ex, S__law_unlike ds Q Ex → t__law_unlike (startD 2 ds) (endsOf Q Ex) := by
  rintro _ Q Ex ⟨p, q, rfl, h1, h2, h3, h4, h⟩
  simp [t__law_unlike]
  refine ⟨h1.ok h4 (by omega), h3.ok h2 (by omega), ?_⟩
  have e : unlP p q = !decide (p.1 * q.2 = q.1 * p.2) := by
    unfold unlP
    by_cases z : p.1 * q.2 = q.1 * p.2 <;> simp [z]
  rw [e] at h
  simpa using h
/-! ### whether the order matters -/
def firstB (row : List Bool) : List Bool := List.replicate (row.filter id).length true ++ List.replicate (row.length - (row.filter id).length) false
def mattersU (s : Sch) (r b : Int) : Bool := [2, 3, 4].any fun n => (rowsB n).any fun row => unlP (pairI s row r b 1 1) (pairI s (firstB row) r b 1 1)
theorem lc_red {P : List D → Prop} : ∀ (row : List Bool) (acc : List D) (a0 a1 a2 a3 a4 a5 a6 c7 : Cell), acc.length + row.length ≤ 1000 → P (acc ++ (row.filter id).map fun c => D.str (colS c)) →
    lcN (dgN 7) (dTest (dOp fEq (dVar 7) (dC (.str "red")))) (dVar 7) [a0, a1, a2, a3, a4, a5, a6, c7] (row.map fun c => D.str (colS c)) acc P
  | [], acc, a0, a1, a2, a3, a4, a5, a6, c7, _, h => by
    rw [List.filter_nil, List.map_nil, List.append_nil] at h
    exact h
  | c :: row, acc, a0, a1, a2, a3, a4, a5, a6, c7, hl, h => by
    rw [List.length_cons] at hl
    rw [List.map_cons]
    unfold lcN
    simp
    cases c with
    | true =>
      rw [if_pos (by rw [colS_red])]
      refine ⟨by omega, lc_red row (acc ++ [D.str (colS true)]) a0 a1 a2 a3 a4 a5 a6 c7 (by rw [List.length_append]; simp; omega) ?_⟩
      rw [List.append_assoc]
      exact h
    | false =>
      rw [if_neg (by rw [colS_red]; exact Bool.false_ne_true)]
      exact lc_red row acc a0 a1 a2 a3 a4 a5 a6 c7 (by omega) h
theorem rep_col (c : Bool) (n : Nat) : (List.replicate n [D.str (colS c)]).flatten = (List.replicate n c).map fun c => D.str (colS c) := by
  induction n with
  | zero => rfl
  | succ n ih => rw [List.replicate_succ, List.replicate_succ, List.flatten_cons, ih, List.map_cons]; rfl
theorem firstB_len (row : List Bool) : (firstB row).length = row.length := by
  have := List.length_filter_le id row
  simp [firstB]
  omega
theorem matters_in {S1 : Spec} {s : Sch} {r b : Int} {k : EndsD} {n : Nat} (hs : okS s) (hr : 0 ≤ r) (hb : 0 ≤ b) (hrb : r + b ≤ 900) (hn : n ≤ 8) : ∀ (rows : List (List Bool)) (c4 c5 c6 c7 : Cell), (∀ row ∈ rows, row.length = n) →
    (if (rows.any fun row => unlP (pairI s row r b 1 1) (pairI s (firstB row) r b 1 1)) = true then k.rt (.bl true) else ∀ c4 c5 c6 c7, k.nx [.fz (schD s), .fz (.int r), .fz (.int b), .fz (.int n), c4, c5, c6, c7]) →
    forN (dgN 4) (b1__law_matters S1 S__law_unlike S__law_pair) (rows.map rowT) [.fz (schD s), .fz (.int r), .fz (.int b), .fz (.int n), c4, c5, c6, c7] k
  | [], c4, c5, c6, c7, _, h => h c4 c5 c6 c7
  | row :: rows, c4, c5, c6, c7, hl, h => by
    have h8 := hl row List.mem_cons_self
    have hf := List.length_filter_le id row
    have hfl := firstB_len row
    rw [List.map_cons]
    unfold forN
    simp [b1__law_matters]
    refine lc_red row [] _ _ _ _ _ _ _ _ (by simp; omega) ?_
    simp
    refine ⟨by omega, by omega, by omega, by omega, ?_⟩
    have e : D.tup (List.replicate (row.filter id).length (D.str "red") ++ List.replicate (n - (row.filter id).length) (D.str "blue")) = rowT (firstB row) := by
      unfold rowT firstB
      rw [List.map_append, List.map_replicate, List.map_replicate, h8]
      rfl
    rw [e]
    refine ⟨s, row, r, b, rfl, hs, by omega, hr, hb, hrb, ?_⟩
    refine ⟨s, firstB row, r, b, rfl, hs, by omega, hr, hb, hrb, ?_⟩
    obtain ⟨b1, b2⟩ := pair_bd hs row r b 1 1 1 hr hb (by omega) (by unfold bd; decide) (by unfold bd; decide)
    obtain ⟨b3, b4⟩ := pair_bd hs (firstB row) r b 1 1 1 hr hb (by omega) (by unfold bd; decide) (by unfold bd; decide)
    refine ⟨_, _, rfl, b1.mono (by omega), b2.mono (by omega), b3.mono (by omega), b4.mono (by omega), ?_⟩
    rw [List.any_cons] at h
    cases hu : unlP (pairI s row r b 1 1) (pairI s (firstB row) r b 1 1) with
    | true =>
      rw [hu, Bool.true_or, if_pos rfl] at h
      simpa using h
    | false =>
      rw [hu, Bool.false_or] at h
      simp
      exact matters_in (S1 := S1) hs hr hb hrb hn rows _ _ _ _ (fun x hx => hl x (List.mem_cons_of_mem _ hx)) h
theorem matters_out {s : Sch} {r b : Int} {k : EndsD} (hs : okS s) (hr : 0 ≤ r) (hb : 0 ≤ b) (hrb : r + b ≤ 900) : ∀ (ns : List Nat) (c3 c4 c5 c6 c7 : Cell), (∀ n ∈ ns, n ≤ 8) →
    (if (ns.any fun n => (rowsB n).any fun row => unlP (pairI s row r b 1 1) (pairI s (firstB row) r b 1 1)) = true then k.rt (.bl true) else ∀ c3 c4 c5 c6 c7, k.nx [.fz (schD s), .fz (.int r), .fz (.int b), c3, c4, c5, c6, c7]) →
    forN (dgN 3) (b2__law_matters S__law_rows S__law_unlike S__law_pair) (ns.map fun n => D.int (n : Nat)) [.fz (schD s), .fz (.int r), .fz (.int b), c3, c4, c5, c6, c7] k
  | [], c3, c4, c5, c6, c7, _, h => h c3 c4 c5 c6 c7
  | n :: ns, c3, c4, c5, c6, c7, hn, h => by
    have h8 := hn n List.mem_cons_self
    rw [List.map_cons]
    unfold forN
    simp [b2__law_matters]
    refine ⟨n, rfl, h8, ?_⟩
    refine matters_in (S1 := S__law_rows) hs hr hb hrb h8 (rowsB n) _ _ _ _ (rowsB_len n) ?_
    rw [List.any_cons] at h
    cases hu : (rowsB n).any fun row => unlP (pairI s row r b 1 1) (pairI s (firstB row) r b 1 1) with
    | true =>
      rw [hu, Bool.true_or, if_pos rfl] at h
      simpa using h
    | false =>
      rw [hu, Bool.false_or] at h
      simp
      intro c4 c5 c6 c7
      exact matters_out hs hr hb hrb ns _ c4 c5 c6 c7 (fun x hx => hn x (List.mem_cons_of_mem _ hx)) h
def S__law_matters : Spec := fun ds P _ => ∃ (s : Sch) (r b : Int), ds = [schD s, .int r, .int b] ∧ okS s ∧ 0 ≤ r ∧ 0 ≤ b ∧ r + b ≤ 900 ∧ P (.bl (mattersU s r b))
theorem p__law_matters : ∀ ds Q Ex, S__law_matters ds Q Ex → t__law_matters S__law_rows S__law_unlike S__law_pair (startD 8 ds) (endsOf Q Ex) := by
  rintro _ Q Ex ⟨s, r, b, rfl, hs, hr, hb, hrb, h⟩
  simp [t__law_matters]
  have e : rangeD 2 3 = ([2, 3, 4] : List Nat).map fun n => D.int (n : Nat) := rfl
  rw [e]
  refine matters_out hs hr hb hrb [2, 3, 4] _ _ _ _ _ (by decide) ?_
  unfold mattersU at h
  split
  · rename_i hu
    rw [hu] at h
    exact h
  · rename_i hu
    have hu : ([2, 3, 4].any fun n => (rowsB n).any fun row => unlP (pairI s row r b 1 1) (pairI s (firstB row) r b 1 1)) = false := by simpa using hu
    rw [hu] at h
    intro c3 c4 c5 c6 c7
    simpa using h
/-! ### the least urn, by the law -/
theorem least_row {s : Sch} {n : Int} {k : EndsD} (hs : okS s) (hn : 1 ≤ n) (hn2 : n ≤ 900) : ∀ (m : Nat) (r : Int) (c2 c3 c4 : Cell), 0 ≤ r → r + m = n + 1 →
    (match rowF s n m r with
      | some q => k.rt (.tup [.int q.1, .int q.2])
      | none => ∀ c2 c3 c4, k.nx [.fz (schD s), .fz (.int n), c2, c3, c4]) →
    forN (dgN 2) (b1__law_least S__law_pair S__law_unlike) (rangeD r m) [.fz (schD s), .fz (.int n), c2, c3, c4] k
  | 0, r, c2, c3, c4, h0, hr, h => h c2 c3 c4
  | m + 1, r, c2, c3, c4, h0, hr, h => by
    rw [rangeD_succ]
    unfold forN
    simp [b1__law_least]
    refine ⟨s, [true, false], r, n - r, rfl, hs, by decide, h0, by omega, by omega, ?_⟩
    refine ⟨s, [false, true], r, n - r, rfl, hs, by decide, h0, by omega, by omega, ?_⟩
    obtain ⟨b1, b2⟩ := pair_bd hs [true, false] r (n - r) 1 1 1 h0 (by omega) (by simp; omega) (by unfold bd; decide) (by unfold bd; decide)
    obtain ⟨b3, b4⟩ := pair_bd hs [false, true] r (n - r) 1 1 1 h0 (by omega) (by simp; omega) (by unfold bd; decide) (by unfold bd; decide)
    refine ⟨_, _, rfl, b1.mono (by decide), b2.mono (by decide), b3.mono (by decide), b4.mono (by decide), ?_⟩
    have e : unlP (pairI s [true, false] r (n - r) 1 1) (pairI s [false, true] r (n - r) 1 1) = unl s r (n - r) := rfl
    rw [e]
    unfold rowF at h
    cases hu : unl s r (n - r) with
    | true =>
      rw [hu, if_pos rfl] at h
      simpa using h
    | false =>
      rw [hu, if_neg Bool.false_ne_true] at h
      simp
      exact least_row hs hn hn2 m (r + 1) _ _ _ (by omega) (by omega) h
theorem least_loop {s : Sch} {k : EndsD} (hs : okS s) : ∀ (f : Nat) (n : Int) (c1 c2 c3 c4 : Cell), 1 ≤ n → n + f ≤ 900 →
    (match searchB s f n with
      | some q => k.rt (.tup [.int q.1, .int q.2])
      | none => ∀ c1 c2 c3 c4, k.nx [.fz (schD s), c1, c2, c3, c4]) →
    forN (dgN 1) (b2__law_least S__law_pair S__law_unlike) (rangeD n f) [.fz (schD s), c1, c2, c3, c4] k
  | 0, n, c1, c2, c3, c4, _, _, h => h c1 c2 c3 c4
  | f + 1, n, c1, c2, c3, c4, hn, hf, h => by
    rw [rangeD_succ]
    unfold forN
    simp [b2__law_least]
    refine ⟨by omega, by omega, ?_⟩
    refine least_row hs hn (by omega) (n + 1).toNat 0 _ _ _ (by omega) (by omega) ?_
    unfold searchB at h
    cases e : rowF s n (n + 1).toNat 0 with
    | some q =>
      rw [e] at h
      exact h
    | none =>
      rw [e] at h
      intro c2 c3 c4
      exact least_loop hs f (n + 1) _ c2 c3 c4 (by omega) (by omega) h
def S__law_least : Spec := fun ds P _ => ∃ s : Sch, ds = [schD s] ∧ okS s ∧ P (urnD (searchB s 7 1))
theorem p__law_least : ∀ ds Q Ex, S__law_least ds Q Ex → t__law_least S__law_pair S__law_unlike (startD 5 ds) (endsOf Q Ex) := by
  rintro _ Q Ex ⟨s, rfl, hs, h⟩
  simp [t__law_least]
  refine least_loop hs 7 1 _ _ _ _ (by omega) (by omega) ?_
  cases e : searchB s 7 1 with
  | some q =>
    rw [e] at h
    exact h
  | none =>
    rw [e] at h
    intro c1 c2 c3 c4
    simpa [urnD] using h
end AU

/-! AuIs: what a display tells, step by step (a large display under simp costs the kernel too much). -/
namespace AU
open PySem L2 PySem.Spec PyProof.Rows
def Is (ρ : Rho) (t : DT) (d : D) : Prop := ∀ P Ex, P d → t ρ P Ex
def IsA (ρ : Rho) (t : DA) (ds : List D) : Prop := ∀ P Ex, P ds → t ρ P Ex
theorem Is.c {ρ : Rho} {d : D} : Is ρ (dC d) d := fun _ _ h => h
theorem Is.var {ρ : Rho} {i : Nat} {d : D} (e : ρ[i]? = some (.fz d)) : Is ρ (dVar i) d := fun P Ex h => by
  unfold dVar
  rw [e]
  exact h
theorem IsA.nil {ρ : Rho} : IsA ρ dNil [] := fun _ _ h => h
theorem IsA.cons {ρ : Rho} {t : DT} {ts : DA} {d : D} {ds : List D} (h : Is ρ t d) (hs : IsA ρ ts ds) : IsA ρ (dCons t ts) (d :: ds) := fun P Ex hp => h _ _ (hs _ _ hp)
theorem Is.tup {ρ : Rho} {ts : DA} {ds : List D} (h : IsA ρ ts ds) (hl : decide (ds.length ≤ 1000) = true) : Is ρ (dTup ts) (.tup ds) := fun P Ex hp => h _ _ ⟨Nat.le_trans (of_decide_eq_true hl) (by decide), hp⟩
theorem Is.lst {ρ : Rho} {ts : DA} {ds : List D} (h : IsA ρ ts ds) (hl : decide (ds.length ≤ 1000) = true) : Is ρ (dLst ts) (.lst ds) := fun P Ex hp => h _ _ ⟨Nat.le_trans (of_decide_eq_true hl) (by decide), hp⟩
theorem Is.neg {ρ : Rho} {t : DT} {i : Int} (h : Is ρ t (.int i)) : Is ρ (dUn fNeg t) (.int (-i)) := fun P Ex hp => h _ _ hp
theorem Is.rep {ρ : Rho} {t : DT} {ds : List D} {n : Nat} (h : Is ρ t (.tup ds)) (h0 : ds ≠ []) (hl : decide (ds.length ≤ 1000) = true) (hn : decide (n ≤ 1000) = true) : Is ρ (dOp fRep t (dC (.int n))) (.tup (List.replicate n ds).flatten) := fun P Ex hp => h _ _ (by
  have := of_decide_eq_true hn
  exact ⟨h0, of_decide_eq_true hl, by omega, by omega, hp⟩)
end AU

/-! AuZ5: list(d), d a dict whose keys are pairs of numbers. -/
namespace AU
open PySem L2 PySem.Spec PyProof.Rows
@[simp] def fListDT : D → (D → Prop) → Prop
  | .dT kvs, P => (∃ ks : List (Int × Int), kvs.map (·.1) = ks.map (fun k => [k.1, k.2])) ∧ P (.lst (keyT kvs))
  | _, _ => False
section
variable {K : PySem.W.Frag}
theorem isKeys_pairs {H : Hp} : ∀ {vs : List (List Key × V)} {bs : List Addr} {ks : List (Int × Int)}, vs.map (·.1) = ks.map (fun k => [Sum.inl k.1, Sum.inl k.2]) → IsKeys H vs bs → IsPairs H bs ks
  | [], bs, [], _, h => by cases h; exact .nil
  | [], bs, k :: ks, e, h => by cases e
  | v :: vs, bs, [], e, h => by cases e
  | v :: vs, bs, k :: ks, e, h => by
    rw [List.map_cons, List.map_cons] at e
    obtain ⟨e1, e2⟩ := List.cons.inj e
    cases h with
    | cons hb t =>
      refine .cons ?_ (isKeys_pairs e2 t)
      rw [hb, e1]
      rfl
theorem rel_listDT : RelC K (fun xs H Q => ∃ d kvs, xs = [V.ref d] ∧ Rd H d (.dT kvs) ∧ ∀ p bs, H p = none → IsKeys H kvs bs → Q (.ref p) (upd H p (.lst (bs.map V.ref)))) (on1 fListDT) := by
  intro g0 g xs a P Q s rs w q
  cases rs with
  | nil => exact w.elim
  | cons r rs =>
    cases rs with
    | cons _ _ => exact w.elim
    | nil =>
      cases r with
      | @dT b vs ds hb rb =>
        obtain ⟨⟨ks, h1⟩, hw⟩ := w
        refine ⟨b, vs, rfl, rd_hold s.ok hb, fun p bs hn hI => ?_⟩
        have hI' : IsPairs g.H bs ks := isKeys_pairs (by rw [repT_keys rb, h1, List.map_map]; rfl) hI
        obtain ⟨g1, e1, s1, r1⟩ := freeze_pairs (K := K) s.ok hI'
        have hn1 : g1.H p = none := by rw [e1]; exact hn
        obtain ⟨s2, r2⟩ := newLst s1.ok hn1 r1
        have ek : keyT ds = ks.map (fun m => D.tup [.int m.1, .int m.2]) := by
          have : keyT ds = (ds.map (·.1)).map fun k => D.tup (k.map D.int) := by unfold keyT; rw [List.map_map]; rfl
          rw [this, h1, List.map_map]
          rfl
        have z := q _ (by rw [← ek]; exact hw) _ _ (s1.trans s2) r2
        have eH : (g1.new p (.lst (bs.map V.ref))).H = upd g.H p (.lst (bs.map V.ref)) := by show upd g1.H p _ = _; rw [e1]
        rw [eH] at z
        exact z
      | _ => exact w.elim
end
section
variable {X : Cx} {W : WX} {g0 : Gh} {k : Nat} {e : Expr} {ts : DA} {p pos : Pos}
theorem dc_listDT (C : Cn X W k) (B : Bi X.mg) (ha : DPA X W g0 [e] ts) (hg : Gl X "list" := by rfl) (he : starEach [e] X.env = (false, eval e X.env) :: starEach [] X.env := by rfl) (hpl : (backTo pos (starEach [] X.env)).any (·.1) = false := by rfl) :
    DE X W g0 (.Call (.Name "list" p) [e] [] pos) (dB (on1 fListDT) ts) := de_callTy (call_list_dT C.cm) rel_listDT (B.at_ "list") bt_list' ha hg (by decide) (by decide) he hpl
end
/-! ### what an expression may tell -/
def Has (ρ : Rho) (t : DT) (φ : D → Prop) : Prop := ∀ P Ex, (∀ d, φ d → P d) → t ρ P Ex
def AllP : List (D → Prop) → List D → Prop
  | [], [] => True
  | φ :: φs, d :: ds => φ d ∧ AllP φs ds
  | _, _ => False
theorem AllP.len : ∀ {φs : List (D → Prop)} {ds : List D}, AllP φs ds → ds.length = φs.length
  | [], [], _ => rfl
  | [], _ :: _, h => h.elim
  | _ :: _, [], h => h.elim
  | _ :: _, _ :: _, h => by rw [List.length_cons, List.length_cons, AllP.len h.2]
def HasA (ρ : Rho) (t : DA) (φs : List (D → Prop)) : Prop := ∀ P Ex, (∀ ds, AllP φs ds → P ds) → t ρ P Ex
theorem HasA.nil {ρ : Rho} : HasA ρ dNil [] := fun _ _ h => h [] trivial
theorem HasA.cons {ρ : Rho} {t : DT} {ts : DA} {φ : D → Prop} {φs : List (D → Prop)} (h : Has ρ t φ) (hs : HasA ρ ts φs) : HasA ρ (dCons t ts) (φ :: φs) := fun P Ex hp => h _ _ fun d hd => hs _ _ fun ds hds => hp _ ⟨hd, hds⟩
theorem Has.lst {ρ : Rho} {ts : DA} {φs : List (D → Prop)} (h : HasA ρ ts φs) (hl : decide (φs.length ≤ 1000) = true) : Has ρ (dLst ts) (fun d => ∃ ds, d = .lst ds ∧ AllP φs ds) := fun P Ex hp => h _ _ fun ds hds => by
  have := of_decide_eq_true hl
  have l := hds.len
  exact ⟨by omega, hp _ ⟨ds, rfl, hds⟩⟩
theorem Is.has {ρ : Rho} {t : DT} {d : D} {φ : D → Prop} (h : Is ρ t d) (hd : φ d) : Has ρ t φ := fun P Ex hp => h P Ex (hp d hd)
end AU

/-! AuZ6: a whole number op a chance, a chance == a whole number. -/
namespace AU
open PySem L2 PySem.Spec PyProof.Rows PySem.W
section
variable {prog : Program} {w : World} {A : Around} {E : Value → Shared → Prop} {s : Shared} {K : Frag} {x C f : Addr} {h₀ : Heap} {L : Addr} {m : Str → Option Value} {ox : Obj} {od : Option Obj} {nm : String}
theorem int_ref_none {id : String} {nm : Str} {n : Int} {t : Tok} {o : Obj} {g : Int → Int → Sem PySem.Fin} {B : Builtin} {Q : Option Value → Shared → Prop} (slot : Slot "int" nm id) (entry : entryFor table id = some B) (args : ∀ a b : Value, argsOk id ⟨[a, b], []⟩) (hB : ∃ name : String, B = Builtin.Int.intBinary name g)
    (ho : s.heap.get? x = some o) (hd : ∀ v, o.data ≠ .prim v) (hQ : Q none s) : wpAny (model prog w) A (tryMethod (.int n t) nm (.ref x)) Q E s := by
  obtain ⟨name, rfl⟩ := hB
  unfold tryMethod
  refine wpAny_bind (wpAny_callSpecial?_slot (typeIs_int s n t) slot (wpAny_call_entry slot (typeIs_int s n t) entry ?_ (args _ _)))
  unfold Builtin.Int.intBinary
  refine wpAny_bind (m := slotArgs name 1 _) (wpAny_pure ?_)
  refine wpAny_bind (m := Builtin.Int.intOfSelf _) (wpAny_pure ?_)
  refine wpAny_bind ?_
  show wpAny _ _ (asInt? (.ref x)) _ _ _
  unfold asInt?
  refine wpAny_bind (wpAny_load ho ?_)
  split
  · rename_i e
    exact absurd e (hd _)
  · refine wpAny_pure ?_
    dsimp only
    refine wpAny_bind (wpAny_rule ?_)
    exact wpAny_pure ⟨_, rfl, wpAny_pure hQ⟩
theorem ksp_tryR {Q : Value → Shared → Prop} {name : Str} {b : Value} (X : K.In s.heap) (I : InstAt s.heap x ox C od) (hs : findIn K (.ref C) name = some (some (.ref f))) (hf : isFn K (.ref f) = true)
    (h : wpAny (model prog w) A (call (.ref f) [.ref x, b]) (PySem.W.CmpBack Q) E s) : wpAny (model prog w) A (tryMethod (.ref x) name b) (fun r s' => ∃ v, r = some v ∧ Q v s') E s := ksp_try X I hs hf h
theorem binR {op : Operator} {n : Int} {t : Tok} {f0 : Addr} {Q : Value → Shared → Prop} (F : Fr h₀ L s.heap m) (X₀ : K.In h₀) (I : InstAt s.heap x ox C od) (hc : selfFirst K C = true)
    (hs : findIn K (.ref C) (PySem.dunder op.info.2) = some (some (.ref f0))) (hr : findIn K (.ref C) (dunderR op.info.2) = some (some (.ref f))) (hf : isFn K (.ref f) = true) (hsub : subIn K (.ref C) (.type "int") = some false)
    (hfill : fillsNumberSlot (.type "int") op.info.2 = pure true) (hleft : ∀ Q' : Option Value → Shared → Prop, Q' none s → wpAny (model prog w) A (tryMethod (.int n t) (PySem.dunder op.info.2) (.ref x)) Q' E s)
    (h : wpAny (model prog w) A (call (.ref f) [.ref x, .int n t]) (PySem.W.CmpBack Q) E s) : wpAny (model prog w) A (binaryOp op (.int n t) (.ref x)) Q E s := by
  have X := X₀.keeps F.keep
  obtain ⟨cd, rest, hcd, hm⟩ := ksp_first hc
  rcases hi : op.info with ⟨sym, nm'⟩
  rw [hi] at hs hr hfill hleft
  dsimp only at hs hr hfill hleft
  have one := ksp_try X I hr hf h
  have L1 : Looks (model prog w) s.heap (typeOf (.ref x)) (.ref C) := I.type
  have L2 : Looks (model prog w) s.heap (typeOf (.int n t)) (.type "int") := Looks.of_pure rfl
  have L3 : Looks (model prog w) s.heap (fillsNumberSlot (.ref C) nm') true := fills_K X hcd hm hs
  have L4 : Looks (model prog w) s.heap (fillsNumberSlot (.type "int") nm') true := Looks.of_pure hfill
  have L5 : Looks (model prog w) s.heap (isSubtype (.ref C) (.type "int")) false := looks_subIn X hsub
  have L7 : Looks (model prog w) s.heap (numberSlotInPython (.type "int") nm') false := Looks.of_pure rfl
  have hne : (Value.type "int" == Value.ref C) = false := Bool.eq_false_iff.mpr fun q => by cases beq_iff_eq.mp q
  obtain ⟨hh, g, d, tt, os⟩ := s
  simp only [binaryOp, hi]
  refine wpAny_holding (wpAny_bind ?_)
  unfold binaryOp1
  refine wpAny_bind (L2.at (wpAny_bind (L1.at (wpAny_bind (L4.at ?_)))))
  simp only [hne, Bool.false_eq_true, if_false]
  refine wpAny_bind (L3.at ?_)
  simp only [Bool.and_self, if_true]
  refine wpAny_bind (L5.at ?_)
  simp only [Bool.false_eq_true, if_false, Bool.not_false, Bool.and_self, if_true]
  refine wpAny_bind (L7.at ?_)
  simp only [Bool.false_eq_true, if_false]
  refine wpAny_bind (hleft _ ?_)
  dsimp only
  refine wpAny_bind (wpAny_mono one (fun r s' hr' => ?_) fun _ _ e => e)
  obtain ⟨v, rfl, hq⟩ := hr'
  dsimp only
  refine wpAny_bind (wpAny_rule ?_)
  refine wpAny_pure ?_
  exact wpAny_pure hq
end
/-! ### over data -/
/-- numbers are no chances, and the other way round -/
def intB (K : PySem.W.Frag) (x : Str) : Bool := decide (PySem.W.subIn K (.ref (He.ga K x)) (.type "int") = some false) && decide (PySem.W.subIn K (.type "int") (.ref (He.ga K x)) = some false)
section
variable {X : Cx} {W : WX} {k j : Nat} {S : Spec}
def rOpI (K : PySem.W.Frag) (C : Addr) (S : Spec) : R2 := fun x y H Q => ∃ (n : Int) (b dy : Addr) (gs : List (Str × V)), x = .int n ∧ y = .ref b ∧ H b = some (.ins C dy gs) ∧ spD K S [y, x] H Q fun _ _ _ => False
theorem opr_ownR {op : Operator} {C f f0 : Addr} {fd : FuncData} {ps : List Str} {id : String} {B : Builtin} {g : Int → Int → Sem PySem.Fin} (cn : Cn X W k) (F : FnOk X.prog X.w X.K X.mg X.base (L2.CX X.prog X.w) j f fd ps (spD X.K S)) (hj : j ≤ k) (hb : Binds X.K fd ps []) (hc : PySem.W.selfFirst X.K C = true)
    (hs : PySem.W.findIn X.K (.ref C) (PySem.dunder op.info.2) = some (some (.ref f0))) (hr : PySem.W.findIn X.K (.ref C) (dunderR op.info.2) = some (some (.ref f))) (hf : PySem.W.isFn X.K (.ref f) = true) (hsub : PySem.W.subIn X.K (.ref C) (.type "int") = some false)
    (hfill : fillsNumberSlot (.type "int") op.info.2 = pure true) (slot : Slot "int" (PySem.dunder op.info.2) id) (entry : entryFor table id = some B) (args : ∀ a b : Value, argsOk id ⟨[a, b], []⟩) (hB : ∃ name : String, B = Builtin.Int.intBinary name g) : OpR X (binaryOp op) (rOpI X.K C S) := by
  intro pins s σ H x y v u Q I rx ry h
  obtain ⟨n, b, dy, gs, rfl, rfl, hb', q⟩ := h
  obtain ⟨t, rfl⟩ : ∃ t, v = Value.int n t := rx
  cases (show u = Value.ref b from ry)
  obtain ⟨mB, J', _⟩ := ins_get I.hok hb'
  have hob : s.heap.get? b = some (PySem.W.instObj C dy) := J'.1
  obtain ⟨od', J', _⟩ := J'.look
  obtain ⟨m, hF⟩ := I.fr
  refine binR hF I.ok.mod.kin J' hc hs hr hf hsub hfill (fun Q' hQ => int_ref_none slot entry args hB hob (fun _ e => by cases e) hQ) ?_
  refine wpAny_mono (run_fnS (us := [.ref b, .int n t]) (vs := [.ref b, .int n]) (E := fun _ _ _ _ => False) F (cn.hr.mono hj) hb no_pass I (.cons rfl (.cons ⟨t, rfl⟩ .nil)) q) (fun w s' z => ?_) fun _ _ x => x
  obtain ⟨z', H', I', rz, qz⟩ := z
  exact back_of rz ⟨z', H', I', rz, qz⟩
end
def fOwnR (S : Spec) : D → D → (D → Prop) → Prop := fun a b P => (∃ n, a = .int n) ∧ isCh b = true ∧ S [b, a] P fun _ => False
theorem rel_ownR {K : PySem.W.Frag} {S : Spec} : Rel2 K (rOpI K (He.ga K "Chance") S) (fOwnR S) := by
  intro g0 g x y a b P Q s rx ry w q
  obtain ⟨⟨n, rfl⟩, h2, w⟩ := w
  cases rx with
  | int => cases ry with
    | ch ga' gt' gb' => exact ⟨_, _, _, _, rfl, rfl, s.ok.ins ga', g, _, P, fun _ => False, rfl, s.ok, .cons (.ch ga' gt' gb') (.cons (.int _) .nil), w, q, fun _ z => z.elim⟩
    | _ => cases h2
/-- x == n -/
def rOpX (K : PySem.W.Frag) (C : Addr) (S : Spec) : R2 := fun x y H Q => ∃ (n : Int) (b dy : Addr) (gs : List (Str × V)), y = .int n ∧ x = .ref b ∧ H b = some (.ins C dy gs) ∧ spD K S [x, y] H Q fun _ _ _ => False
section
variable {X : Cx} {W : WX} {k j : Nat} {S : Spec}
theorem opr_cmpOwnX {op : CmpOp} {C f : Addr} {fd : FuncData} {ps : List Str} (cn : Cn X W k) (hop : ∀ a b, compareOp op a b = richCompare op a b) (F : FnOk X.prog X.w X.K X.mg X.base (L2.CX X.prog X.w) j f fd ps (spD X.K S)) (hj : j ≤ k) (hb : Binds X.K fd ps [])
    (hs : PySem.W.findIn X.K (.ref C) (cmpInfo op).2.1 = some (some (.ref f))) (hf : PySem.W.isFn X.K (.ref f) = true) (hsub : PySem.W.subIn X.K (.type "int") (.ref C) = some false) : OpR X (compareOp op) (rOpX X.K C S) := by
  intro pins s σ H x y v u Q I rx ry h
  obtain ⟨n, a, dx, fs, rfl, rfl, ha, q⟩ := h
  cases (show v = Value.ref a from rx)
  obtain ⟨t, rfl⟩ : ∃ t, u = Value.int n t := ry
  obtain ⟨mA, J, _⟩ := ins_get I.hok ha
  obtain ⟨od, J, _⟩ := J.look
  obtain ⟨m, hF⟩ := I.fr
  rw [hop]
  refine PySem.W.cmp_K (op := op) (tb := .type "int") cn.hr.units0 hF I.ok.mod.kin J (Looks.of_pure rfl) (by simp [PySem.W.notFirst, hsub]) hs hf ?_
  refine wpAny_mono (run_fnS (us := [.ref a, .int n t]) (vs := [.ref a, .int n]) (E := fun _ _ _ _ => False) F (cn.hr.mono hj) hb no_pass I (.cons rfl (.cons ⟨t, rfl⟩ .nil)) q) (fun w s' z => ?_) fun _ _ x => x
  obtain ⟨z', H', I', rz, qz⟩ := z
  exact back_of rz ⟨z', H', I', rz, qz⟩
end
def fOwnX (S : Spec) : D → D → (D → Prop) → Prop := fun a b P => isCh a = true ∧ (∃ n, b = .int n) ∧ S [a, b] P fun _ => False
theorem rel_ownX {K : PySem.W.Frag} {S : Spec} : Rel2 K (rOpX K (He.ga K "Chance") S) (fOwnX S) := by
  intro g0 g x y a b P Q s rx ry w q
  obtain ⟨h1, ⟨n, rfl⟩, w⟩ := w
  cases ry with
  | int => cases rx with
    | ch ga gt gb => exact ⟨_, _, _, _, rfl, rfl, s.ok.ins ga, g, _, P, fun _ => False, rfl, s.ok, .cons (.ch ga gt gb) (.cons (.int _) .nil), w, q, fun _ z => z.elim⟩
    | _ => cases h1
section
variable {X : Cx} {W : WX} {g0 : Gh} {k j j0 : Nat} {S S0 : Spec} {a b : Expr} {ta tb : DT} {pos : Pos}
theorem de_opIC {op : Operator} {id : String} {B : Builtin} {g : Int → Int → Sem PySem.Fin} (C : Cn X W k) (II : intB X.K "Chance" = true) (F0 : OpC X.prog X.w X.K X.mg X.base j0 (PySem.dunder op.info.2) S0) (F : OpC X.prog X.w X.K X.mg X.base j (dunderR op.info.2) S) (hj : j ≤ k) (ha : DE X W g0 a ta) (hb : DE X W g0 b tb)
    (hfill : fillsNumberSlot (.type "int") op.info.2 = pure true) (slot : Slot "int" (PySem.dunder op.info.2) id) (entry : entryFor table id = some B) (args : ∀ a b : Value, argsOk id ⟨[a, b], []⟩) (hB : ∃ name : String, B = Builtin.Int.intBinary name g) : DE X W g0 (.BinOp a op b pos) (dOp (fOwnR S) ta tb) := by
  obtain ⟨f, fd, ps, hs, hf, hc, F, hbd⟩ := F
  obtain ⟨f0, _, _, hs0, _⟩ := F0
  unfold intB at II
  rw [Bool.and_eq_true] at II
  exact de_op (opr_ownR C F hj hbd hc hs0 hs hf (of_decide_eq_true II.1) hfill slot entry args hB) rel_ownR ha hb
theorem de_addIC (C : Cn X W k) (II : intB X.K "Chance" = true) (F0 : OpC X.prog X.w X.K X.mg X.base j0 "__add__" S0) (F : OpC X.prog X.w X.K X.mg X.base j "__radd__" S) (hj : j ≤ k) (ha : DE X W g0 a ta) (hb : DE X W g0 b tb) : DE X W g0 (.BinOp a .Add b pos) (dOp (fOwnR S) ta tb) :=
  de_opIC C II F0 F hj ha hb PySem.F.fills_int_add PySem.F.slot_int_add PySem.F.entry_int_add PySem.F.args_int_add_2 ⟨_, rfl⟩
theorem de_subIC (C : Cn X W k) (II : intB X.K "Chance" = true) (F0 : OpC X.prog X.w X.K X.mg X.base j0 "__sub__" S0) (F : OpC X.prog X.w X.K X.mg X.base j "__rsub__" S) (hj : j ≤ k) (ha : DE X W g0 a ta) (hb : DE X W g0 b tb) : DE X W g0 (.BinOp a .Sub b pos) (dOp (fOwnR S) ta tb) :=
  de_opIC C II F0 F hj ha hb PySem.F.fills_int_sub PySem.F.slot_int_sub PySem.F.entry_int_sub PySem.F.args_int_sub_2 ⟨_, rfl⟩
theorem de_mulIC (C : Cn X W k) (II : intB X.K "Chance" = true) (F0 : OpC X.prog X.w X.K X.mg X.base j0 "__mul__" S0) (F : OpC X.prog X.w X.K X.mg X.base j "__rmul__" S) (hj : j ≤ k) (ha : DE X W g0 a ta) (hb : DE X W g0 b tb) : DE X W g0 (.BinOp a .Mult b pos) (dOp (fOwnR S) ta tb) :=
  de_opIC C II F0 F hj ha hb PySem.F.fills_int_mul PySem.F.slot_int_mul PySem.F.entry_int_mul PySem.F.args_int_mul_2 ⟨_, rfl⟩
theorem de_eqCX (C : Cn X W k) (II : intB X.K "Chance" = true) (F : OpC X.prog X.w X.K X.mg X.base j (cmpInfo .Eq).2.1 S) (hj : j ≤ k) (ha : DE X W g0 a ta) (hb : DE X W g0 b tb) : DE X W g0 (.Compare a [.Eq] [b] pos) (dOp (fOwnX S) ta tb) := by
  obtain ⟨f, fd, ps, hs, hf, hc, F, hbd⟩ := F
  unfold intB at II
  rw [Bool.and_eq_true] at II
  exact de_cmp (opr_cmpOwnX C (fun _ _ => rfl) F hj hbd hs hf (of_decide_eq_true II.2)) rel_ownX ha hb (nomark _)
theorem dt_eqCX (C : Cn X W k) (II : intB X.K "Chance" = true) (F : OpC X.prog X.w X.K X.mg X.base j (cmpInfo .Eq).2.1 S) (hj : j ≤ k) (ha : DE X W g0 a ta) (hb : DE X W g0 b tb) : DTt X W g0 (.Compare a [.Eq] [b] pos) (dTest (dOp (fOwnX S) ta tb)) := by
  obtain ⟨f, fd, ps, hs, hf, hc, F, hbd⟩ := F
  unfold intB at II
  rw [Bool.and_eq_true] at II
  exact dt_cmp (opr_cmpOwnX C (fun _ _ => rfl) F hj hbd hs hf (of_decide_eq_true II.2)) rel_ownX ha hb (nomark _)
end
end AU

/-! AuSet: sorted(set(xs)), xs a list of texts. -/
namespace AU
open PySem L2 PySem.Spec PyProof.Rows PySem.Froz
/-- a holds a set of the texts l, that can be walked -/
structure TS (P : Program) (w : World) (hp : Heap) (a : Addr) (l : List Str) : Prop where
  ex : ∃ D : SD, hp.get? a = some (sObj "set" D) ∧ TxOk P w D l ∧ Ris D.2.2.place.toList ∧ (w.params.followText "set-order" = true ∨ D.2.2.led = true)
  nd : l.Nodup
section
variable {P : Program} {w : World} {A : Around} {E : Value → Shared → Prop} {s : Shared} {a : Addr} {l : List Str}
theorem TS.at {h1 h2 : Heap} (T : TS P w h1 a l) (k : ∀ o, h1.get? a = some o → h2.get? a = some o) : TS P w h2 a l := ⟨let ⟨D, q1, q2⟩ := T.ex; ⟨D, k _ q1, q2⟩, T.nd⟩
theorem tailTx_keeps {ep : Nat} {es : Array (Int × Value)} {t : SetTable} {b : Bool} (r : Ris t.place.toList) : Ris (tailTx ep es t b).2.2.place.toList ∧ (tailTx ep es t b).2.2.led = t.led := by
  unfold tailTx
  split
  · exact ⟨relayAll_ris _ _ _, relayAll_led _ _ _⟩
  · exact ⟨r, rfl⟩
theorem addTx_keeps {x : Int} {v : Value} {D : SD} (r : Ris D.2.2.place.toList) : Ris (addTx x v D).2.2.place.toList ∧ (addTx x v D).2.2.led = D.2.2.led := by
  have r1 := layNew_ris D.2.2 D.1 x v r
  have l1 := layNew_led D.2.2 D.1 x v
  unfold addTx
  split
  · obtain ⟨z1, z2⟩ := tailTx_keeps (ep := D.2.1) (es := (layNew D.2.2 D.1 x v).1) (t := { (layNew D.2.2 D.1 x v).2.1 with plain := false }) (b := (layNew D.2.2 D.1 x v).2.2.1) r1
    exact ⟨z1, z2.trans l1⟩
  · obtain ⟨z1, z2⟩ := tailTx_keeps (ep := D.2.1) (es := (layNew D.2.2 D.1 x v).1) (b := (layNew D.2.2 D.1 x v).2.2.1) r1
    exact ⟨z1, z2.trans l1⟩
theorem add_known {D : SD} {k : Str} {u : Tok} {Q : Bool → Shared → Prop} (ho : s.heap.get? a = some (sObj "set" D)) (F : TxOk P w D l) (hk : k ∈ l) (few : l.length < scanBound) (h : Q false s) : wpAny (model P w) A (setAddHashed a (.str k u) (hashStr w k)) Q E s := by
  obtain ⟨e, he, hx⟩ := (F.mem k).mp hk
  have key : (strKind P w).is k (Value.str k u) = true := is_str k u
  have found : ∃ j, D.1.toList.findIdx? (fun e => (strKind P w).is k e.2) = some j := by
    cases q : D.1.toList.findIdx? (fun e => (strKind P w).is k e.2) with
    | some j => exact ⟨j, rfl⟩
    | none =>
      have := List.findIdx?_eq_none_iff.mp q e he
      rw [hx] at this
      cases this
  obtain ⟨j, hj⟩ := found
  have dat : (sObj "set" D).data = .set D.1 D.2.1 D.2.2 := rfl
  unfold setAddHashed setAddHashedIn
  refine wpAny_holding (wpAny_bind (wpAny_setState_of ho dat F.fit ?_))
  dsimp only
  have sc : byScan (Value.str k u) D.1 = true := byScan_of rfl (by rw [F.sz]; exact few) F.el
  rw [sc]
  simp only [↓reduceIte]
  unfold setAddByScan
  refine wpAny_bind (wpAny_bind (wpAny_rule (wpAny_bind (wpAny_setScan_of (knd := strKind P w) key ho dat F.fit F.el ?_))))
  rw [hj]
  exact wpAny_pure (wpAny_pure h)
/-- what an add of the text k leaves -/
theorem add_text {k : Str} {u : Tok} {Q : Bool → Shared → Prop} (T : TS P w s.heap a l) (few : l.length + 1 < scanBound)
    (h : ∀ b hp l', (∀ c, c ≠ a → hp.get? c = s.heap.get? c) → TS P w hp a l' → (∀ z, z ∈ l' ↔ z = k ∨ z ∈ l) → l'.length ≤ l.length + 1 → Q b { s with heap := hp }) : wpAny (model P w) A (setAddHashed a (.str k u) (hashStr w k)) Q E s := by
  obtain ⟨D, ho, F, r, hl⟩ := T.ex
  by_cases hk : k ∈ l
  · exact add_known ho F hk (by omega) (h false s.heap l (fun _ _ => rfl) T (fun z => ⟨.inr, fun q => q.elim (fun q => q ▸ hk) id⟩) (by omega))
  · refine add_x ho F hk few (h true _ (k :: l) (fun c hc => Heap.get?_update_ne _ _ _ _ hc) ⟨⟨addTx (hashStr w k) (.str k u) D, get_upd _ ho rfl, PySem.Froz.add_ok u F, (addTx_keeps r).1, hl.imp id fun z => by rw [(addTx_keeps r).2]; exact z⟩, List.nodup_cons.mpr ⟨hk, T.nd⟩⟩ (fun z => List.mem_cons) (by simp))
/-- the loop behind set(xs) -/
theorem update_texts {I : Addr} {fp wr : List Addr} {G : Array GenState → Array GenState → Prop} {n : Nat} {Pv : Nat → Value → Prop} {St : Nat → Shared → Prop} {R : Result → Shared → Prop} (W : WalksS P w A.in1 I fp wr G n Pv St) (ha : a ∉ fp) {xs : List Str} (hn : xs.length = n) (few : n + 1 < scanBound)
    (hv : ∀ i v, Pv i v → ∃ z t, xs[i]? = some z ∧ v = Value.str z t) (fin : ∀ s' l', Moved (a :: wr) G s s' → TS P w s'.heap a l' → (∀ z, z ∈ l' ↔ z ∈ xs) → l'.length ≤ n → R (.ok (.ret .none)) s') :
    ∀ (m i : Nat) (s1 : Shared) (l : List Str), i + m = n → St i s1 → Moved (a :: wr) G s s1 → TS P w s1.heap a l → (∀ z, z ∈ l ↔ z ∈ xs.take i) → l.length ≤ i → codeAny (model P w) A (.builtin "set.update.loop" ⟨[.ref a, .ref I], []⟩) R s1 := by
  have aw : a ∉ wr := fun z => ha (W.sub _ z)
  have more : ∀ b, b ∈ wr → b ∈ a :: wr := fun b z => List.mem_cons_of_mem a z
  intro m
  induction m with
  | zero =>
    intro i s1 l hi hs hm T hz hl
    have hi : i = n := by omega
    subst hi
    refine codeAny_builtin PyProof.Rows.F.entry_set_update_loop ?_
    rw [Around.under_plainId PyProof.Rows.F.plain_set_update_loop]
    refine wpAny_bind (m := pyNext (.ref I)) (W.done s1 _ _ hs fun s2 h2 => wpAny_pure (fin s2 l (Moved.trans W.gtrans hm (h2.mono more)) (T.at fun o e => h2.heap a o aw e) (fun z => ?_) hl))
    rw [hz, List.take_of_length_le (by omega)]
  | succ m ih =>
    intro i s1 l hi hs hm T hz hl
    refine codeAny_builtin PyProof.Rows.F.entry_set_update_loop ?_
    rw [Around.under_plainId PyProof.Rows.F.plain_set_update_loop]
    refine wpAny_bind (m := pyNext (.ref I)) (W.item i s1 _ _ (by omega) hs fun v s2 hp hs2 h2 => ?_)
    obtain ⟨z, t, e, rfl⟩ := hv i v hp
    have T2 : TS P w s2.heap a l := T.at fun o e => h2.heap a o aw e
    refine wpAny_bind (m := holding [Value.str z t] (setAdd a (.str z t))) (wpAny_holding ?_)
    unfold setAdd
    refine wpAny_holding (wpAny_bind ((strKind P w).pyHash (k := z) (is_str z t) ?_))
    refine add_text (s := { s2 with toks := s2.toks + 1 }) T2 (by omega) fun b hp l' hc T3 hz3 hl3 => ?_
    have hold : ∀ c, c ≠ a → ∀ o, s2.heap.get? c = some o → hp.get? c = some o := fun c q o e => (hc c q).trans e
    refine wpAny_pure ⟨plainId_quiet PyProof.Rows.F.plain_set_update_loop _, ih (i + 1) _ l' (by omega) (W.frame _ s2 hp _ hs2 (Nat.le_succ _) fun b hb o e => hold b (fun q => ha (by rw [← q]; exact hb)) o e) ?_ T3 (fun y => ?_) (by omega)⟩
    · exact Moved.trans W.gtrans hm ((h2.mono more).then_heap (Nat.le_succ _) fun b o hb e => hold b (fun q => hb (by rw [q]; exact List.mem_cons_self)) o e)
    · rw [hz3, List.take_add_one, e, List.mem_append, hz]
      simp [or_comm]
/-- a new set -/
abbrev newS (w : World) : Obj := { cls := .type "set", dict := none, data := .set #[] 0 (.fresh 0 0 (!w.params.followText "set-order")) }
theorem ts_new {hp : Heap} (ho : hp.get? a = some (newS w)) : TS P w hp a [] := by
  refine ⟨⟨(#[], 0, .fresh 0 0 (!w.params.followText "set-order")), ho, TxOk.nil rfl, List.Pairwise.nil, ?_⟩, .nil⟩
  show _ ∨ (!w.params.followText "set-order") = true
  cases w.params.followText "set-order"
  · exact .inr rfl
  · exact .inl rfl
theorem texts_at {us : List Value} {xs : List Str} (h : StrsAre us xs) : ∀ (i : Nat) (v : Value), us[i]? = some v → ∃ z t, xs[i]? = some z ∧ v = Value.str z t := by
  induction h with
  | nil => intro i v e; simp at e
  | cons z t _ ih =>
    intro i v e
    cases i with
    | zero => simp at e; exact ⟨z, t, rfl, e.symm⟩
    | succ i => simpa using ih i v (by simpa using e)
theorem call_set_texts {q : Addr} {its : Array Value} {xs : List Str} {Q : Value → Shared → Prop} (calm : A.handled = none) (hq : s.heap.IsList q its) (hx : StrsAre its.toList xs) (few : xs.length + 1 < scanBound)
    (fin : ∀ (hp : Heap) (tk : Nat) (l : List Str), TS P w hp s.heap.objs.size l → (∀ z, z ∈ l ↔ z ∈ xs) → l.length ≤ xs.length → (∀ b o, s.heap.get? b = some o → hp.get? b = some o) → Q (.ref s.heap.objs.size) { s with heap := hp, toks := tk }) :
    wpAny (model P w) A (call (.type "set") [.ref q]) Q E s := by
  have sz : its.size = xs.length := by
    have := StrsAre.len_eq hx
    rwa [Array.length_toList] at this
  obtain ⟨c0, c1, hmro⟩ := PySem.F.called_set.mro
  have m1 := PySem.F.called_set.made
  have m2 := PySem.F.called_set.sub
  have m3 := PySem.F.called_set.notType
  have m4 := PySem.F.called_set.canCreate
  have m5 := PySem.F.typeCall_set_1 (.ref q)
  refine wpAny_call (codeAny_of_tree (wpAny_pure ⟨Code.quiet_builtin _ (by decide +kernel), codeAny_builtin PySem.F.entry_type_call ?_⟩))
  rw [Around.under_plain (weight_type_call_type "set" [.ref q] []) rfl]
  repeat (any_goals (first | assumption | wp_step))
  refine codeAny_mono (code_set_led1 (.ref q) (E := E) (Q₁ := fun v s1 => v = .ref s.heap.objs.size ∧ s1 = { s with heap := s.heap.push (newS w) }) ⟨rfl, rfl⟩) fun r s1 h1 => ?_
  match r, h1 with
  | .error _, h1 => exact h1
  | .ok (.ret v), h1 =>
    obtain ⟨rfl, rfl⟩ := h1
    have here : (s.heap.push (newS w)).get? s.heap.objs.size = some (newS w) := Heap.get?_push_size _ rfl
    have typ : Shared.TypeIs { s with heap := s.heap.push (newS w) } (.ref s.heap.objs.size) "set" := ⟨_, here, rfl⟩
    have i1 := PySem.F.called_set.init.lookup
    have i2 := PySem.F.called_set.init.bind (.ref s.heap.objs.size)
    repeat (any_goals (first | assumption | wp_step))
    refine codeAny_mono (codeAny_call_builtin (R := wants (fun v s2 => v = .none ∧ ∃ hp tk l, s2 = { s with heap := hp, toks := tk } ∧ TS P w hp s.heap.objs.size l ∧ (∀ z, z ∈ l ↔ z ∈ xs) ∧ l.length ≤ xs.length ∧ ∀ b o, s.heap.get? b = some o → hp.get? b = some o) E)
      PySem.F.called_set.init.plain PySem.F.entry_set_init (check_set_init_1 typ ?_)) fun r2 s2 h2 => ?_
    · obtain ⟨ob, hob, hc, nn, hd⟩ := hq
      obtain ⟨oc, od, oda, os⟩ := ob
      simp only at hc hd
      subst hc hd
      have low : q < s.heap.objs.size := Heap.lt_size hob
      have hob2 : (s.heap.push (newS w)).get? q = some { cls := .type "list", dict := od, data := .seq its nn, slots := os } := Heap.get?_push_of_some _ hob
      have isl : (s.heap.push (newS w)).IsList q its := ⟨_, hob2, rfl, nn, rfl⟩
      have b1 := PySem.F.sub_list_set
      have b2 := PySem.F.sub_list_frozenset
      have b3 : (Value.type "list" == Value.type "dict") = false := by decide
      unfold Builtin.«set.__init__» noKeywords Builtin.Frozenset.updateFrom
      generalize hPI : pyIter = PI
      wp_walk
      subst hPI
      refine wpAny_pyIter_list isl ?_
      refine wpAny_bind (wpAny_runValue ?_)
      have calm3 : A.in1.in1.in1.handled = none := by simp [calm]
      have big : (s.heap.push (newS w)).objs.size = s.heap.objs.size + 1 := Heap.size_push ..
      have far : q ≠ (s.heap.push (newS w)).objs.size := by rw [big]; exact Nat.ne_of_lt (Nat.lt_succ_of_lt low)
      have out : s.heap.objs.size ∉ [(s.heap.push (newS w)).objs.size, q] := by
        rw [big]
        intro z
        rcases List.mem_cons.mp z with z | z
        · exact Nat.ne_of_lt (Nat.lt_succ_self _) z
        · exact Nat.ne_of_gt low (List.mem_singleton.mp z)
      refine update_texts ((Walks.list calm3 _ q far its).toS) (a := s.heap.objs.size) out (xs := xs) sz.symm (by omega) (fun i v e => texts_at hx i v (by rw [Array.getElem?_toList]; exact e)) (fun s' l' hm T hz hl => ?_) its.size 0 _ [] (by omega)
        ⟨⟨_, Heap.get?_push_size _ rfl, rfl, rfl⟩, isl.push _⟩ (Moved.refl fun _ => rfl) (ts_new (Heap.get?_push_of_some _ here)) (fun z => by simp) (by simp)
      obtain ⟨hp, g, d, tk, os'⟩ := s'
      have e1 : g = s.gens := hm.gens
      have e2 : d = s.drawn := hm.drawn
      have e3 : os' = s.os := hm.os
      subst e1 e2 e3
      refine wpAny_pure (wpAny_pure ⟨rfl, hp, tk, l', rfl, T, hz, by omega, fun b o e => ?_⟩)
      have lt := Heap.lt_size e
      refine hm.heap b o ?_ (Heap.get?_push_of_some _ (Heap.get?_push_of_some _ e))
      rw [big]
      intro z
      rcases List.mem_cons.mp z with z | z
      · exact Nat.ne_of_lt lt z
      · exact Nat.ne_of_lt (Nat.lt_succ_of_lt lt) (List.mem_singleton.mp z)
    · match r2, h2 with
      | .error _, h2 => exact h2
      | .ok (.ret v), h2 =>
        obtain ⟨rfl, hp, tk, l, rfl, a1, a2, a3, a4⟩ := h2
        repeat (any_goals (first | assumption | wp_step))
        exact fin hp tk l a1 a2 a3 a4
end
end AU

/-! AuSet2: sorted(set(xs)), over data. -/
namespace AU
open PySem L2 PySem.Spec PyProof.Rows PySem.Froz
theorem perm_of_sub {α : Type} [DecidableEq α] : ∀ {l m : List α}, l.Nodup → (∀ x ∈ l, x ∈ m) → m.length ≤ l.length → m.Perm l
  | [], m, _, _, h => by
    have : m = [] := List.length_eq_zero_iff.mp (by simpa using h)
    rw [this]
  | x :: l, m, nd, sub, h => by
    obtain ⟨n1, n2⟩ := List.nodup_cons.mp nd
    have hx := sub x List.mem_cons_self
    have p := List.perm_cons_erase hx
    refine p.trans (List.Perm.cons x (perm_of_sub n2 (fun y hy => ?_) ?_))
    · have : y ≠ x := fun e => n1 (e ▸ hy)
      exact (List.mem_erase_of_ne this).mpr (sub y (List.mem_cons_of_mem _ hy))
    · rw [List.length_erase_of_mem hx]
      rw [List.length_cons] at h
      omega
section
variable {P : Program} {w : World} {A : Around} {E : Value → Shared → Prop} {s : Shared} {a : Addr} {l : List Str}
/-- sorted(a), a a set of texts -/
theorem sorted_texts {Q : Value → Shared → Prop} (T : TS P w s.heap a l) (calm : A.handled = none) (few : l.length < 64)
    (fin : ∀ s' p (out : List Value) (c : Nat) (ys : List Str), (∀ b o, s.heap.get? b = some o → s'.heap.get? b = some o) → s'.gens = s.gens → s'.os = s.os → s.heap.objs.size ≤ p → s'.heap.get? p = some (seqObj "list" out.toArray c) → StrsAre out ys → ys.Perm l → sortedS ys = true → Q (.ref p) s') :
    wpAny (model P w) A (call (.builtin "sorted") [.ref a]) Q E s := by
  obtain ⟨D, ho, F, r, hl⟩ := T.ex
  have n64 : D.1.size < 64 := by rw [F.sz]; exact few
  have nb : D.1.size < scanBound := Nat.lt_trans n64 (by decide)
  refine Calls.call_function_entry PyProof.Rows.kind_sorted PyProof.Rows.plain_sorted PyProof.Rows.entry_sorted (PyProof.Rows.args_sorted1 _) (wpAny_bind (m := checkCount "sorted" 1 1 _) (wpAny_pure ?_))
  refine wpAny_bind (collect_set (A := A.in1) calm ⟨_, ho, rfl, rfl⟩ F.fit nb r hl fun s1 vs k1 z1 g1 o1 pm => ?_)
  have vl : vs.length = D.1.size := by rw [pm.length_eq, List.length_map, Array.length_toList]
  have shape : ∀ v ∈ vs, ∃ k t, v = Value.str k t := fun v hv => by
    obtain ⟨e, he, q⟩ := List.mem_map.mp (pm.mem_iff.mp hv)
    obtain ⟨⟨k, h1, h2⟩, h3⟩ := F.el e he
    obtain ⟨t, ht⟩ := Value.isStrOf_shape (x := k) (v := e.2) h1
    exact ⟨k, t, by rw [← q, ht]⟩
  have hS : StrsAre vs (vs.map strOf) := strsAre_map vs shape
  have pl : (vs.map strOf).Perm l := by
    refine perm_of_sub T.nd (fun x hx => ?_) (by rw [List.length_map, vl, F.sz]; exact Nat.le_refl _)
    obtain ⟨e, he, q⟩ := (F.mem x).mp hx
    obtain ⟨t, ht⟩ := Value.isStrOf_shape (x := x) (v := e.2) q
    exact List.mem_map.mpr ⟨e.2, pm.mem_iff.mpr (List.mem_map.mpr ⟨e, he, rfl⟩), by rw [ht]; rfl⟩
  have vl64 : vs.length < 64 := by rw [vl]; exact n64
  refine wpAny_bind (wpAny_newList ?_ (Nat.le_trans (Nat.le_of_lt vl64) (by decide)))
  have ob : (s1.heap.push (seqObj "list" vs.toArray 0)).get? s1.heap.objs.size = some (seqObj "list" vs.toArray 0) := Heap.get?_push_size _ rfl
  refine wpAny_bind (wpAny_holding (wpAny_call_entry PyProof.Rows.slot_list_sort ⟨_, ob, rfl⟩ PyProof.Rows.entry_list_sort
    (list_sort_treeK strKind_oneLt ob hS.keysOf (fun v₁ v₂ rest e => keyKind_strs (by rw [← e]; exact hS)) vl64 fun st hp hs => ⟨_, rfl, ?_⟩) (PyProof.Rows.args_list_sort _)))
  obtain ⟨ys, g2, g3, g4⟩ := sorted_out_str hS hp hs
  obtain ⟨c, hc⟩ := PyProof.Rows.sortedHeap_at (vs := vs) (out := (arrOf st).map (·.2)) ob
  refine wpAny_pure ⟨_, rfl, fin _ s1.heap.objs.size ((arrOf st).map (·.2)).toList c ys (fun b u e => ?_) g1 o1 z1 (by rw [Array.toArray_toList]; exact hc) g2 (g3.trans pl) g4⟩
  have old := k1 b u e
  have lt := Heap.lt_size old
  show (PyProof.Rows.sortedHeap (s1.heap.push (seqObj "list" vs.toArray 0)) s1.heap.objs.size vs ((arrOf st).map (·.2))).get? b = some u
  rw [PyProof.Rows.sortedHeap_old (Nat.ne_of_lt lt) (by rw [size_push']; exact Nat.lt_succ_of_lt lt)]
  exact Heap.get?_push_of_some _ old
end
/-! ### over the abstract heap -/
section
variable {X : Cx}
def tSortSet (K : PySem.W.Frag) (ta : TE) : TE := fun σ H Q => ta σ H fun x H1 => ∃ q, ∃ xs : List Str, x = .ref q ∧ SqL K H1 q (xs.map V.str) ∧ xs.length < 64 ∧ ∀ (ys : List Str) (p : Addr), ys.Nodup → (∀ z, z ∈ ys ↔ z ∈ xs) → sortedS ys = true → H1 p = none → Q (.ref p) (upd H1 p (.lst (ys.map V.str)))
theorem pe_sortSet {e : Expr} {ta : TE} {p1 p2 q1 q2 : Pos} (hc : X.calm = true) (hg : Gl X "sorted") (hm : X.mg "sorted" = none) (hg2 : Gl X "set") (hm2 : X.mg "set" = none) (ha : PE X e ta)
    (na : starEach [e] X.env = (false, eval e X.env) :: starEach [] X.env := by rfl) : PE X (.Call (.Name "sorted" p1) [.Call (.Name "set" p2) [e] [] q2] [] q1) (tSortSet X.K ta) := by
  refine ⟨fun pins s σ H Q I h => ?_⟩
  refine Call_ (ld_blt I hg hm bt_sorted (PyProof.Rows.callWith_builtin1 (PyProof.Rows.args_cons ?_ rfl) rfl rfl))
  refine Call_ (ld_blt I hg2 hm2 boot_set (PyProof.Rows.callWith_type1 (PyProof.Rows.args_cons (thn (ha.run pins s σ H _ I h) fun v s1 z => PyProof.Rows.args_nil ?_) na) na rfl))
  obtain ⟨x, H1, I1, r1, q, xs, rfl, hq, few, fin⟩ := z
  cases r1
  obtain ⟨its, rv, hl, _⟩ := I1.list hq
  refine call_set_texts (I1.ok.hd hc) hl.isList (by simpa using rv.strs) (Nat.lt_trans (Nat.succ_lt_succ few) (by decide)) fun hp tk l T hz hln kp => PyProof.Rows.args_nil ?_
  have I2 : Inv X pins σ H1 { s1 with heap := hp, toks := tk } := I1.kept kp
  refine sorted_texts (s := { s1 with heap := hp, toks := tk }) T (I2.ok.hd hc) (by omega) fun s' p out c ys k g o hp2 hget hS hpm hs => ?_
  have hno : H1 p = none := I2.hok.fresh hp2
  have k' : ∀ b u, s1.heap.get? b = some u → s'.heap.get? b = some u := fun b u e => k b u (kp b u e)
  have hp3 : s1.heap.objs.size ≤ p := by
    obtain ⟨D, hD, _⟩ := T.ex
    exact Nat.le_trans (Nat.le_of_lt (Heap.lt_size hD)) hp2
  have hlen : (ys.map V.str).length ≤ sizeLine := by
    rw [List.length_map, hpm.length_eq]
    exact Nat.le_trans hln (Nat.le_trans (Nat.le_of_lt few) (by decide))
  have J : Inv X pins σ (upd H1 p (.lst (ys.map V.str))) { s1 with heap := s'.heap, gens := s'.gens, drawn := s'.drawn, toks := s'.toks } :=
    I1.call (ch := []) (Un.laid k' hp3 hno) (I1.hok.laid k' hp3 ⟨hlen, out, c, vals_of_strs hS, hget⟩) (by rw [g]; exact I1.bare) (fun _ z => nomatch z)
  have same : s' = { s1 with heap := s'.heap, gens := s'.gens, drawn := s'.drawn, toks := s'.toks } := by
    cases s'
    cases s1
    cases o
    rfl
  rw [same]
  exact ⟨.ref p, _, J, rfl, fin ys p (hpm.nodup_iff.mpr T.nd) (fun z => hpm.mem_iff.trans (hz z)) hs hno⟩
end
end AU

/-! AuSet3: sorted(set(xs)), sorted(pairs), over data. -/
namespace AU
open PySem L2 PySem.Spec PyProof.Rows
@[simp] def fSortSet : D → (D → Prop) → Prop
  | .lst ds, P => ∃ xs, strsD ds = some xs ∧ xs.length < 64 ∧ ∀ ys : List Str, ys.Nodup → (∀ z, z ∈ ys ↔ z ∈ xs) → sortedS ys = true → P (.lst (ys.map D.str))
  | _, _ => False
@[simp] def dSortSet (t : DT) : DT := fun ρ P Ex => t ρ (fun d => fSortSet d P) Ex
section
variable {X : Cx} {W : WX} {g0 : Gh} {k : Nat} {e : Expr} {te : DT} {p1 p2 q1 q2 : Pos}
theorem de_sortSet (C : Cn X W k) (B : Bi X.mg) (ha : DE X W g0 e te) (hg : Gl X "sorted" := by rfl) (hg2 : Gl X "set" := by rfl) (na : starEach [e] X.env = (false, eval e X.env) :: starEach [] X.env := by rfl) :
    DE X W g0 (.Call (.Name "sorted" p1) [.Call (.Name "set" p2) [e] [] q2] [] q1) (dSortSet te) :=
  PE.imp (pe_sortSet C.cm hg (B.at_ "sorted") hg2 (B.at_ "set") ha na) fun σ H Q h => by
    obtain ⟨g, ρ, P, Ex, rfl, s0, en, t, q, x⟩ := h
    refine ⟨g, ρ, _, Ex, rfl, s0, en, t, fun d hd v g1 s1 r1 => ?_, x⟩
    cases r1 with
    | @lst p vs ds hp rk =>
      obtain ⟨xs, h1, h64, hw⟩ := hd
      have e := strsD_eq h1
      subst e
      refine ⟨p, xs, rfl, SqL.of (by rw [← strs_of_reps rk]; exact s1.ok.lst hp), h64, fun ys l nd hm hs hl => ?_⟩
      obtain ⟨s2, r2⟩ := newLst s1.ok hl (reps_strs (K := X.K) ys)
      exact q _ (hw ys nd hm hs) _ _ (s1.trans s2) r2
    | _ => exact hd.elim
end
end AU

namespace AU
open PySem L2 PySem.Spec PyProof.Rows
def top (i : Nat) : Stmt := PySem.Challenge.pw_anyurn_k02_programs_looked_at.main.body.getD i (.Pass ⟨0, 0, 0, 0⟩)
section
variable {P : Program} {w : World} {K : PySem.W.Frag} {mg : Str → Option Value} {base : Heap}
theorem sc_is_word : FnScope ["thing", "sign"] ["thing"] (defScope (top 8)) := ⟨rfl, rfl, rfl, by decide +kernel, rfl, by decide +kernel, by decide +kernel⟩
theorem bd_is_word {k : Nat} {f : Addr} {cdv : Value} {A : Around} {outer : List PySem.Env} {s : Shared} {H : Hp} {E : XK} {g0 : Gh} (B : Bi mg) (c_SMALL : Cs K mg "SMALL" (.str "abcdefghijklmnopqrstuvwxyz")) (C : Cn (cxD P w K mg base ["thing", "sign"] "is_word" (defScope (top 8)) f cdv A outer s H E) (wxD E) k) : DPs (cxD P w K mg base ["thing", "sign"] "is_word" (defScope (top 8)) f cdv A outer s H E) (wxD E) g0 (defBody (top 8)) (t_is_word) := by
  exact dp_one (dp_ret (de_and (de_isi "str" B (de_var 0) (B.at_ "str") (hv := by decide +kernel)) (de_and (de_chain (op_le) (rel_cmp _) (op_le) (rel_cmp _) (de_int) (dc_len B (da_cons (de_var 0) (da_nil))) (de_int)) (de_one (dc_all C B (da_cons (de_lc (own := [("sign", 1)]) C (di_str (de_var 0)) (blkOk_by (show blkC ["thing", "sign"] (defScope (top 8)) _ [("sign", 1)] = true from by decide +kernel)) ⟨fun s H Ca cl fp C gb => ⟨dg_name 1 C.nd, dts_nil, ce_in (de_var 1) (de_cs c_SMALL)⟩⟩) (da_nil)))))))
theorem ok_is_word {k : Nat} {f : Addr} {fd : FuncData} (F : FunD K "is_word" "is_word" (defArgs (top 8)) (defBody (top 8)) (defScope (top 8)) [] [] f fd) (B : Bi mg) (c_SMALL : Cs K mg "SMALL" (.str "abcdefghijklmnopqrstuvwxyz")) {S : Spec} (len : ∀ ds Q Ex, S ds Q Ex → ds.length = 1) (spec : ∀ ds Q Ex, S ds Q Ex → t_is_word (startD 2 ds) (endsOf Q Ex)) : FnOk P w K mg base (L2.CX P w) (k + 1) f fd ["thing"] (spD K S) :=
  fnD F sc_is_word (fun cdv A outer s H E g0 C => bd_is_word B c_SMALL C) len spec
theorem fn_is_word {k : Nat} (Y : Df K mg (top 8) "is_word") (B : Bi mg) (c_SMALL : Cs K mg "SMALL" (.str "abcdefghijklmnopqrstuvwxyz")) {S : Spec} (len : ∀ ds Q Ex, S ds Q Ex → ds.length = 1) (spec : ∀ ds Q Ex, S ds Q Ex → t_is_word (startD 2 ds) (endsOf Q Ex)) : Fn P w K mg base (k + 1) "is_word" S := by
  obtain ⟨fd, F, hm⟩ := Y
  exact fn_mk F (ok_is_word F B c_SMALL len spec) hm (fun _ _ _ _ _ _ us hl => match us, hl with | [_], _ => rfl)

theorem sc_is_within : FnScope ["thing", "draws"] ["thing", "draws"] (defScope (top 9)) := ⟨rfl, rfl, rfl, by decide +kernel, rfl, by decide +kernel, by decide +kernel⟩
theorem bd_is_within {k : Nat} {f : Addr} {cdv : Value} {A : Around} {outer : List PySem.Env} {s : Shared} {H : Hp} {E : XK} {g0 : Gh} (B : Bi mg) {S_is_word : Spec} {j_is_word : Nat} (F_is_word : Fn P w K mg base j_is_word "is_word" S_is_word) (h_is_word : j_is_word ≤ k) {S_is_within : Spec} {j_is_within : Nat} (F_is_within : Fn P w K mg base j_is_within "is_within" S_is_within) (h_is_within : j_is_within ≤ k) (c_WAYS : Cs K mg "WAYS" (.tup [(.str "back"), (.str "aside"), (.str "more"), (.str "other")])) (C : Cn (cxD P w K mg base ["thing", "draws"] "is_within" (defScope (top 9)) f cdv A outer s H E) (wxD E) k) : DPs (cxD P w K mg base ["thing", "draws"] "is_within" (defScope (top 9)) f cdv A outer s H E) (wxD E) g0 (defBody (top 9)) (t_is_within S_is_word S_is_within) := by
  exact dp_cons (dp_if (dt_w (dw_or (dt_not (dt_tru (de_isi "tuple" B (de_var 0) (B.at_ "tuple") (hv := by decide +kernel)))) (dw_or (dt_not (dt_tru (de_var 0))) (dw_or1 (dt_not (dt_tru (de_isi "str" B (de_ix (de_var 0) (de_int)) (B.at_ "str") (hv := by decide +kernel)))))))) (dp_one (dp_ret (de_bl))) (dp_nil)) (dp_cons (dp_if (ct_eq C (de_ix (de_var 0) (de_int)) (de_str)) (dp_one (dp_ret (de_and (ce_eq C (dc_len B (da_cons (de_var 0) (da_nil))) (de_int)) (de_one (de_call C F_is_word h_is_word (da_cons (de_ix (de_var 0) (de_int)) (da_nil))))))) (dp_nil)) (dp_cons (dp_if (dt_w (dw_or (ct_ne C (de_ix (de_var 0) (de_int)) (de_str)) (dw_or (ct_ne C (dc_len B (da_cons (de_var 0) (da_nil))) (de_int)) (dw_or1 (ct_eq C (de_var 1) (de_int)))))) (dp_one (dp_ret (de_bl))) (dp_nil)) (dp_cons (dp_if (dt_w (dw_or (dt_not (dt_tru (de_isi "str" B (de_ix (de_var 0) (de_int)) (B.at_ "str") (hv := by decide +kernel)))) (dw_or1 (ct_notin (de_ix (de_var 0) (de_int)) (de_cs c_WAYS))))) (dp_one (dp_ret (de_bl))) (dp_nil)) (dp_one (dp_ret (de_and (de_call C F_is_within h_is_within (da_cons (de_ix (de_var 0) (de_int)) (da_cons (de_sub (de_var 1) (de_int)) (da_nil)))) (de_one (de_call C F_is_within h_is_within (da_cons (de_ix (de_var 0) (de_int)) (da_cons (de_sub (de_var 1) (de_int)) (da_nil)))))))))))
theorem ok_is_within {k : Nat} {f : Addr} {fd : FuncData} (F : FunD K "is_within" "is_within" (defArgs (top 9)) (defBody (top 9)) (defScope (top 9)) [] [] f fd) (B : Bi mg) {S_is_word : Spec} {j_is_word : Nat} (F_is_word : Fn P w K mg base j_is_word "is_word" S_is_word) (h_is_word : j_is_word ≤ k) {S_is_within : Spec} {j_is_within : Nat} (F_is_within : Fn P w K mg base j_is_within "is_within" S_is_within) (h_is_within : j_is_within ≤ k) (c_WAYS : Cs K mg "WAYS" (.tup [(.str "back"), (.str "aside"), (.str "more"), (.str "other")])) {S : Spec} (len : ∀ ds Q Ex, S ds Q Ex → ds.length = 2) (spec : ∀ ds Q Ex, S ds Q Ex → t_is_within S_is_word S_is_within (startD 2 ds) (endsOf Q Ex)) : FnOk P w K mg base (L2.CX P w) (k + 1) f fd ["thing", "draws"] (spD K S) :=
  fnD F sc_is_within (fun cdv A outer s H E g0 C => bd_is_within B F_is_word h_is_word F_is_within h_is_within c_WAYS C) len spec
theorem fn_is_within {k : Nat} (Y : Df K mg (top 9) "is_within") (B : Bi mg) {S_is_word : Spec} {j_is_word : Nat} (F_is_word : Fn P w K mg base j_is_word "is_word" S_is_word) (h_is_word : j_is_word ≤ k) {S_is_within : Spec} {j_is_within : Nat} (F_is_within : Fn P w K mg base j_is_within "is_within" S_is_within) (h_is_within : j_is_within ≤ k) (c_WAYS : Cs K mg "WAYS" (.tup [(.str "back"), (.str "aside"), (.str "more"), (.str "other")])) {S : Spec} (len : ∀ ds Q Ex, S ds Q Ex → ds.length = 2) (spec : ∀ ds Q Ex, S ds Q Ex → t_is_within S_is_word S_is_within (startD 2 ds) (endsOf Q Ex)) : Fn P w K mg base (k + 1) "is_within" S := by
  obtain ⟨fd, F, hm⟩ := Y
  exact fn_mk F (ok_is_within F B F_is_word h_is_word F_is_within h_is_within c_WAYS len spec) hm (fun _ _ _ _ _ _ us hl => match us, hl with | [_, _], _ => rfl)
theorem no_is_within {k : Nat} (Y : Df K mg (top 9) "is_within") : Fn P w K mg base (k + 1) "is_within" S_no := by
  obtain ⟨fd, F, hm⟩ := Y
  exact fn_no F sc_is_within hm (fun _ _ _ _ _ _ us hl => match us, hl with | [_, _], _ => rfl)
theorem rec_is_within {k : Nat} (Y : Df K mg (top 9) "is_within") (B : Bi mg) {S_is_word : Spec} {j_is_word : Nat} (F_is_word : Fn P w K mg base j_is_word "is_word" S_is_word) (h_is_word : j_is_word ≤ k + 1) (c_WAYS : Cs K mg "WAYS" (.tup [(.str "back"), (.str "aside"), (.str "more"), (.str "other")])) {S : Nat → Spec} (len : ∀ N ds Q Ex, S N ds Q Ex → ds.length = 2) (p : ∀ (N : Nat) (SR : Spec), (∀ ds P Ex, N ≠ 0 → S (N - 1) ds P Ex → SR ds P Ex) → ∀ ds Q Ex, S N ds Q Ex → t_is_within S_is_word SR (startD 2 ds) (endsOf Q Ex)) : ∀ N : Nat, Fn P w K mg base (k + 2 + N) "is_within" (S N)
  | 0 => fn_is_within (k := k + 1) Y B F_is_word h_is_word (no_is_within (k := k) Y) (Nat.le_refl _) c_WAYS (len 0) (p 0 _ fun _ _ _ h0 _ => absurd rfl h0)
  | N + 1 => fn_is_within (k := k + 2 + N) Y B F_is_word (Nat.le_trans h_is_word (by omega)) (rec_is_within Y B F_is_word h_is_word c_WAYS len p N) (Nat.le_refl _) c_WAYS (len (N + 1)) (p (N + 1) _ fun _ _ _ _ h => h)

theorem sc_is_program : FnScope ["thing"] ["thing"] (defScope (top 10)) := ⟨rfl, rfl, rfl, by decide +kernel, rfl, by decide +kernel, by decide +kernel⟩
theorem bd_is_program {k : Nat} {f : Addr} {cdv : Value} {A : Around} {outer : List PySem.Env} {s : Shared} {H : Hp} {E : XK} {g0 : Gh} (B : Bi mg) {S_is_within : Spec} {j_is_within : Nat} (F_is_within : Fn P w K mg base j_is_within "is_within" S_is_within) (h_is_within : j_is_within ≤ k) (c_MOST_DRAWS : Cs K mg "MOST_DRAWS" (.int 6)) (C : Cn (cxD P w K mg base ["thing"] "is_program" (defScope (top 10)) f cdv A outer s H E) (wxD E) k) : DPs (cxD P w K mg base ["thing"] "is_program" (defScope (top 10)) f cdv A outer s H E) (wxD E) g0 (defBody (top 10)) (t_is_program S_is_within) := by
  exact dp_one (dp_ret (de_call C F_is_within h_is_within (da_cons (de_var 0) (da_cons (de_cs c_MOST_DRAWS) (da_nil)))))
theorem ok_is_program {k : Nat} {f : Addr} {fd : FuncData} (F : FunD K "is_program" "is_program" (defArgs (top 10)) (defBody (top 10)) (defScope (top 10)) [] [] f fd) (B : Bi mg) {S_is_within : Spec} {j_is_within : Nat} (F_is_within : Fn P w K mg base j_is_within "is_within" S_is_within) (h_is_within : j_is_within ≤ k) (c_MOST_DRAWS : Cs K mg "MOST_DRAWS" (.int 6)) {S : Spec} (len : ∀ ds Q Ex, S ds Q Ex → ds.length = 1) (spec : ∀ ds Q Ex, S ds Q Ex → t_is_program S_is_within (startD 1 ds) (endsOf Q Ex)) : FnOk P w K mg base (L2.CX P w) (k + 1) f fd ["thing"] (spD K S) :=
  fnD F sc_is_program (fun cdv A outer s H E g0 C => bd_is_program B F_is_within h_is_within c_MOST_DRAWS C) len spec
theorem fn_is_program {k : Nat} (Y : Df K mg (top 10) "is_program") (B : Bi mg) {S_is_within : Spec} {j_is_within : Nat} (F_is_within : Fn P w K mg base j_is_within "is_within" S_is_within) (h_is_within : j_is_within ≤ k) (c_MOST_DRAWS : Cs K mg "MOST_DRAWS" (.int 6)) {S : Spec} (len : ∀ ds Q Ex, S ds Q Ex → ds.length = 1) (spec : ∀ ds Q Ex, S ds Q Ex → t_is_program S_is_within (startD 1 ds) (endsOf Q Ex)) : Fn P w K mg base (k + 1) "is_program" S := by
  obtain ⟨fd, F, hm⟩ := Y
  exact fn_mk F (ok_is_program F B F_is_within h_is_within c_MOST_DRAWS len spec) hm (fun _ _ _ _ _ _ us hl => match us, hl with | [_], _ => rfl)

theorem sc_check_program : FnScope ["thing"] ["thing"] (defScope (top 11)) := ⟨rfl, rfl, rfl, by decide +kernel, rfl, by decide +kernel, by decide +kernel⟩
theorem bd_check_program {k : Nat} {f : Addr} {cdv : Value} {A : Around} {outer : List PySem.Env} {s : Shared} {H : Hp} {E : XK} {g0 : Gh} (B : Bi mg) {S_is_program : Spec} {j_is_program : Nat} (F_is_program : Fn P w K mg base j_is_program "is_program" S_is_program) (h_is_program : j_is_program ≤ k) (X_BadProgram : XCls K mg "BadProgram") (C : Cn (cxD P w K mg base ["thing"] "check_program" (defScope (top 11)) f cdv A outer s H E) (wxD E) k) : DPs (cxD P w K mg base ["thing"] "check_program" (defScope (top 11)) f cdv A outer s H E) (wxD E) g0 (defBody (top 11)) (t_check_program S_is_program) := by
  exact dp_one (dp_if (dt_not (dt_tru (de_call C F_is_program h_is_program (da_cons (de_var 0) (da_nil))))) (dp_one (dp_raise C X_BadProgram)) (dp_nil))
theorem ok_check_program {k : Nat} {f : Addr} {fd : FuncData} (F : FunD K "check_program" "check_program" (defArgs (top 11)) (defBody (top 11)) (defScope (top 11)) [] [] f fd) (B : Bi mg) {S_is_program : Spec} {j_is_program : Nat} (F_is_program : Fn P w K mg base j_is_program "is_program" S_is_program) (h_is_program : j_is_program ≤ k) (X_BadProgram : XCls K mg "BadProgram") {S : Spec} (len : ∀ ds Q Ex, S ds Q Ex → ds.length = 1) (spec : ∀ ds Q Ex, S ds Q Ex → t_check_program S_is_program (startD 1 ds) (endsOf Q Ex)) : FnOk P w K mg base (L2.CX P w) (k + 1) f fd ["thing"] (spD K S) :=
  fnD F sc_check_program (fun cdv A outer s H E g0 C => bd_check_program B F_is_program h_is_program X_BadProgram C) len spec
theorem fn_check_program {k : Nat} (Y : Df K mg (top 11) "check_program") (B : Bi mg) {S_is_program : Spec} {j_is_program : Nat} (F_is_program : Fn P w K mg base j_is_program "is_program" S_is_program) (h_is_program : j_is_program ≤ k) (X_BadProgram : XCls K mg "BadProgram") {S : Spec} (len : ∀ ds Q Ex, S ds Q Ex → ds.length = 1) (spec : ∀ ds Q Ex, S ds Q Ex → t_check_program S_is_program (startD 1 ds) (endsOf Q Ex)) : Fn P w K mg base (k + 1) "check_program" S := by
  obtain ⟨fd, F, hm⟩ := Y
  exact fn_mk F (ok_check_program F B F_is_program h_is_program X_BadProgram len spec) hm (fun _ _ _ _ _ _ us hl => match us, hl with | [_], _ => rfl)

def t_all_marks (S_all_marks : Spec) : DS := dSeq (dIfS (dTest (dOp fEq (dOp fIx (dVar 0) (dC (.int 0))) (dC (.str "mark")))) (dRet (dLst (dCons (dOp fIx (dVar 0) (dC (.int 1))) (dNil)))) (dNext)) (dRet (dOp fAdd (dCall S_all_marks (dCons (dOp fIx (dVar 0) (dC (.int 2))) (dNil))) (dCall S_all_marks (dCons (dOp fIx (dVar 0) (dC (.int 3))) (dNil)))))
theorem sc_all_marks : FnScope ["program"] ["program"] (defScope (top 12)) := ⟨rfl, rfl, rfl, by decide +kernel, rfl, by decide +kernel, by decide +kernel⟩
theorem bd_all_marks {k : Nat} {f : Addr} {cdv : Value} {A : Around} {outer : List PySem.Env} {s : Shared} {H : Hp} {E : XK} {g0 : Gh} (B : Bi mg) {S_all_marks : Spec} {j_all_marks : Nat} (F_all_marks : Fn P w K mg base j_all_marks "all_marks" S_all_marks) (h_all_marks : j_all_marks ≤ k) (C : Cn (cxD P w K mg base ["program"] "all_marks" (defScope (top 12)) f cdv A outer s H E) (wxD E) k) : DPs (cxD P w K mg base ["program"] "all_marks" (defScope (top 12)) f cdv A outer s H E) (wxD E) g0 (defBody (top 12)) (t_all_marks S_all_marks) := by
  exact dp_cons (dp_if (ct_eq C (de_ix (de_var 0) (de_int)) (de_str)) (dp_one (dp_ret (de_lst (da_cons (de_ix (de_var 0) (de_int)) (da_nil))))) (dp_nil)) (dp_one (dp_ret (de_add (de_call C F_all_marks h_all_marks (da_cons (de_ix (de_var 0) (de_int)) (da_nil))) (de_call C F_all_marks h_all_marks (da_cons (de_ix (de_var 0) (de_int)) (da_nil))))))
theorem ok_all_marks {k : Nat} {f : Addr} {fd : FuncData} (F : FunD K "all_marks" "all_marks" (defArgs (top 12)) (defBody (top 12)) (defScope (top 12)) [] [] f fd) (B : Bi mg) {S_all_marks : Spec} {j_all_marks : Nat} (F_all_marks : Fn P w K mg base j_all_marks "all_marks" S_all_marks) (h_all_marks : j_all_marks ≤ k) {S : Spec} (len : ∀ ds Q Ex, S ds Q Ex → ds.length = 1) (spec : ∀ ds Q Ex, S ds Q Ex → t_all_marks S_all_marks (startD 1 ds) (endsOf Q Ex)) : FnOk P w K mg base (L2.CX P w) (k + 1) f fd ["program"] (spD K S) :=
  fnD F sc_all_marks (fun cdv A outer s H E g0 C => bd_all_marks B F_all_marks h_all_marks C) len spec
theorem fn_all_marks {k : Nat} (Y : Df K mg (top 12) "all_marks") (B : Bi mg) {S_all_marks : Spec} {j_all_marks : Nat} (F_all_marks : Fn P w K mg base j_all_marks "all_marks" S_all_marks) (h_all_marks : j_all_marks ≤ k) {S : Spec} (len : ∀ ds Q Ex, S ds Q Ex → ds.length = 1) (spec : ∀ ds Q Ex, S ds Q Ex → t_all_marks S_all_marks (startD 1 ds) (endsOf Q Ex)) : Fn P w K mg base (k + 1) "all_marks" S := by
  obtain ⟨fd, F, hm⟩ := Y
  exact fn_mk F (ok_all_marks F B F_all_marks h_all_marks len spec) hm (fun _ _ _ _ _ _ us hl => match us, hl with | [_], _ => rfl)
theorem no_all_marks {k : Nat} (Y : Df K mg (top 12) "all_marks") : Fn P w K mg base (k + 1) "all_marks" S_no := by
  obtain ⟨fd, F, hm⟩ := Y
  exact fn_no F sc_all_marks hm (fun _ _ _ _ _ _ us hl => match us, hl with | [_], _ => rfl)
theorem rec_all_marks {k : Nat} (Y : Df K mg (top 12) "all_marks") (B : Bi mg) {S : Nat → Spec} (len : ∀ N ds Q Ex, S N ds Q Ex → ds.length = 1) (p : ∀ (N : Nat) (SR : Spec), (∀ ds P Ex, N ≠ 0 → S (N - 1) ds P Ex → SR ds P Ex) → ∀ ds Q Ex, S N ds Q Ex → t_all_marks SR (startD 1 ds) (endsOf Q Ex)) : ∀ N : Nat, Fn P w K mg base (k + 2 + N) "all_marks" (S N)
  | 0 => fn_all_marks (k := k + 1) Y B (no_all_marks (k := k) Y) (Nat.le_refl _) (len 0) (p 0 _ fun _ _ _ h0 _ => absurd rfl h0)
  | N + 1 => fn_all_marks (k := k + 2 + N) Y B (rec_all_marks Y B len p N) (Nat.le_refl _) (len (N + 1)) (p (N + 1) _ fun _ _ _ _ h => h)

def t_marks (S_check_program : Spec) (S_all_marks : Spec) : DS := dSeq (dDrop (dCall S_check_program (dCons (dVar 0) (dNil)))) (dRet (dB (on1 fSortD) (dCons (dDc (iSeq (dCall S_all_marks (dCons (dVar 0) (dNil)))) (dgN 1) (dYes) (dVar 1) (dC (.bl true)) [1]) (dNil))))
theorem sc_marks : FnScope ["program", "mark"] ["program"] (defScope (top 13)) := ⟨rfl, rfl, rfl, by decide +kernel, rfl, by decide +kernel, by decide +kernel⟩
theorem bd_marks {k : Nat} {f : Addr} {cdv : Value} {A : Around} {outer : List PySem.Env} {s : Shared} {H : Hp} {E : XK} {g0 : Gh} (B : Bi mg) {S_check_program : Spec} {j_check_program : Nat} (F_check_program : Fn P w K mg base j_check_program "check_program" S_check_program) (h_check_program : j_check_program ≤ k) {S_all_marks : Spec} {j_all_marks : Nat} (F_all_marks : Fn P w K mg base j_all_marks "all_marks" S_all_marks) (h_all_marks : j_all_marks ≤ k) (C : Cn (cxD P w K mg base ["program", "mark"] "marks" (defScope (top 13)) f cdv A outer s H E) (wxD E) k) : DPs (cxD P w K mg base ["program", "mark"] "marks" (defScope (top 13)) f cdv A outer s H E) (wxD E) g0 (defBody (top 13)) (t_marks S_check_program S_all_marks) := by
  exact dp_cons (dp_expr (de_call C F_check_program h_check_program (da_cons (de_var 0) (da_nil)))) (dp_one (dp_ret (dc_sortD C B (da_cons (de_dc (own := [("mark", 1)]) C (di_seq (de_call C F_all_marks h_all_marks (da_cons (de_var 0) (da_nil)))) (blkOk_by (show blkC ["program", "mark"] (defScope (top 13)) _ [("mark", 1)] = true from by decide +kernel)) ⟨fun s H Ca cl fp C gb => ⟨dg_name 1 C.nd, dts_nil, de_var 1, de_bl⟩⟩) (da_nil)))))
theorem ok_marks {k : Nat} {f : Addr} {fd : FuncData} (F : FunD K "marks" "marks" (defArgs (top 13)) (defBody (top 13)) (defScope (top 13)) [] [] f fd) (B : Bi mg) {S_check_program : Spec} {j_check_program : Nat} (F_check_program : Fn P w K mg base j_check_program "check_program" S_check_program) (h_check_program : j_check_program ≤ k) {S_all_marks : Spec} {j_all_marks : Nat} (F_all_marks : Fn P w K mg base j_all_marks "all_marks" S_all_marks) (h_all_marks : j_all_marks ≤ k) {S : Spec} (len : ∀ ds Q Ex, S ds Q Ex → ds.length = 1) (spec : ∀ ds Q Ex, S ds Q Ex → t_marks S_check_program S_all_marks (startD 2 ds) (endsOf Q Ex)) : FnOk P w K mg base (L2.CX P w) (k + 1) f fd ["program"] (spD K S) :=
  fnD F sc_marks (fun cdv A outer s H E g0 C => bd_marks B F_check_program h_check_program F_all_marks h_all_marks C) len spec
theorem fn_marks {k : Nat} (Y : Df K mg (top 13) "marks") (B : Bi mg) {S_check_program : Spec} {j_check_program : Nat} (F_check_program : Fn P w K mg base j_check_program "check_program" S_check_program) (h_check_program : j_check_program ≤ k) {S_all_marks : Spec} {j_all_marks : Nat} (F_all_marks : Fn P w K mg base j_all_marks "all_marks" S_all_marks) (h_all_marks : j_all_marks ≤ k) {S : Spec} (len : ∀ ds Q Ex, S ds Q Ex → ds.length = 1) (spec : ∀ ds Q Ex, S ds Q Ex → t_marks S_check_program S_all_marks (startD 2 ds) (endsOf Q Ex)) : Fn P w K mg base (k + 1) "marks" S := by
  obtain ⟨fd, F, hm⟩ := Y
  exact fn_mk F (ok_marks F B F_check_program h_check_program F_all_marks h_all_marks len spec) hm (fun _ _ _ _ _ _ us hl => match us, hl with | [_], _ => rfl)

def t_deepest (S_deepest : Spec) : DS := dRet (dIf (dTest (dOp fEq (dOp fIx (dVar 0) (dC (.int 0))) (dC (.str "mark")))) (dC (.int 0)) (dOp fAdd (dC (.int 1)) (dB fMax2 (dCons (dCall S_deepest (dCons (dOp fIx (dVar 0) (dC (.int 2))) (dNil))) (dCons (dCall S_deepest (dCons (dOp fIx (dVar 0) (dC (.int 3))) (dNil))) (dNil))))))
theorem sc_deepest : FnScope ["program"] ["program"] (defScope (top 14)) := ⟨rfl, rfl, rfl, by decide +kernel, rfl, by decide +kernel, by decide +kernel⟩
theorem bd_deepest {k : Nat} {f : Addr} {cdv : Value} {A : Around} {outer : List PySem.Env} {s : Shared} {H : Hp} {E : XK} {g0 : Gh} (B : Bi mg) {S_deepest : Spec} {j_deepest : Nat} (F_deepest : Fn P w K mg base j_deepest "deepest" S_deepest) (h_deepest : j_deepest ≤ k) (C : Cn (cxD P w K mg base ["program"] "deepest" (defScope (top 14)) f cdv A outer s H E) (wxD E) k) : DPs (cxD P w K mg base ["program"] "deepest" (defScope (top 14)) f cdv A outer s H E) (wxD E) g0 (defBody (top 14)) (t_deepest S_deepest) := by
  exact dp_one (dp_ret (de_ifExp (ct_eq C (de_ix (de_var 0) (de_int)) (de_str)) (de_int) (de_add (de_int) (dc_max2 C B (da_cons (de_call C F_deepest h_deepest (da_cons (de_ix (de_var 0) (de_int)) (da_nil))) (da_cons (de_call C F_deepest h_deepest (da_cons (de_ix (de_var 0) (de_int)) (da_nil))) (da_nil)))))))
theorem ok_deepest {k : Nat} {f : Addr} {fd : FuncData} (F : FunD K "deepest" "deepest" (defArgs (top 14)) (defBody (top 14)) (defScope (top 14)) [] [] f fd) (B : Bi mg) {S_deepest : Spec} {j_deepest : Nat} (F_deepest : Fn P w K mg base j_deepest "deepest" S_deepest) (h_deepest : j_deepest ≤ k) {S : Spec} (len : ∀ ds Q Ex, S ds Q Ex → ds.length = 1) (spec : ∀ ds Q Ex, S ds Q Ex → t_deepest S_deepest (startD 1 ds) (endsOf Q Ex)) : FnOk P w K mg base (L2.CX P w) (k + 1) f fd ["program"] (spD K S) :=
  fnD F sc_deepest (fun cdv A outer s H E g0 C => bd_deepest B F_deepest h_deepest C) len spec
theorem fn_deepest {k : Nat} (Y : Df K mg (top 14) "deepest") (B : Bi mg) {S_deepest : Spec} {j_deepest : Nat} (F_deepest : Fn P w K mg base j_deepest "deepest" S_deepest) (h_deepest : j_deepest ≤ k) {S : Spec} (len : ∀ ds Q Ex, S ds Q Ex → ds.length = 1) (spec : ∀ ds Q Ex, S ds Q Ex → t_deepest S_deepest (startD 1 ds) (endsOf Q Ex)) : Fn P w K mg base (k + 1) "deepest" S := by
  obtain ⟨fd, F, hm⟩ := Y
  exact fn_mk F (ok_deepest F B F_deepest h_deepest len spec) hm (fun _ _ _ _ _ _ us hl => match us, hl with | [_], _ => rfl)
theorem no_deepest {k : Nat} (Y : Df K mg (top 14) "deepest") : Fn P w K mg base (k + 1) "deepest" S_no := by
  obtain ⟨fd, F, hm⟩ := Y
  exact fn_no F sc_deepest hm (fun _ _ _ _ _ _ us hl => match us, hl with | [_], _ => rfl)
theorem rec_deepest {k : Nat} (Y : Df K mg (top 14) "deepest") (B : Bi mg) {S : Nat → Spec} (len : ∀ N ds Q Ex, S N ds Q Ex → ds.length = 1) (p : ∀ (N : Nat) (SR : Spec), (∀ ds P Ex, N ≠ 0 → S (N - 1) ds P Ex → SR ds P Ex) → ∀ ds Q Ex, S N ds Q Ex → t_deepest SR (startD 1 ds) (endsOf Q Ex)) : ∀ N : Nat, Fn P w K mg base (k + 2 + N) "deepest" (S N)
  | 0 => fn_deepest (k := k + 1) Y B (no_deepest (k := k) Y) (Nat.le_refl _) (len 0) (p 0 _ fun _ _ _ h0 _ => absurd rfl h0)
  | N + 1 => fn_deepest (k := k + 2 + N) Y B (rec_deepest Y B len p N) (Nat.le_refl _) (len (N + 1)) (p (N + 1) _ fun _ _ _ _ h => h)

def t_depth (S_check_program : Spec) (S_deepest : Spec) : DS := dSeq (dDrop (dCall S_check_program (dCons (dVar 0) (dNil)))) (dRet (dCall S_deepest (dCons (dVar 0) (dNil))))
theorem sc_depth : FnScope ["program"] ["program"] (defScope (top 15)) := ⟨rfl, rfl, rfl, by decide +kernel, rfl, by decide +kernel, by decide +kernel⟩
theorem bd_depth {k : Nat} {f : Addr} {cdv : Value} {A : Around} {outer : List PySem.Env} {s : Shared} {H : Hp} {E : XK} {g0 : Gh} (B : Bi mg) {S_check_program : Spec} {j_check_program : Nat} (F_check_program : Fn P w K mg base j_check_program "check_program" S_check_program) (h_check_program : j_check_program ≤ k) {S_deepest : Spec} {j_deepest : Nat} (F_deepest : Fn P w K mg base j_deepest "deepest" S_deepest) (h_deepest : j_deepest ≤ k) (C : Cn (cxD P w K mg base ["program"] "depth" (defScope (top 15)) f cdv A outer s H E) (wxD E) k) : DPs (cxD P w K mg base ["program"] "depth" (defScope (top 15)) f cdv A outer s H E) (wxD E) g0 (defBody (top 15)) (t_depth S_check_program S_deepest) := by
  exact dp_cons (dp_expr (de_call C F_check_program h_check_program (da_cons (de_var 0) (da_nil)))) (dp_one (dp_ret (de_call C F_deepest h_deepest (da_cons (de_var 0) (da_nil)))))
theorem ok_depth {k : Nat} {f : Addr} {fd : FuncData} (F : FunD K "depth" "depth" (defArgs (top 15)) (defBody (top 15)) (defScope (top 15)) [] [] f fd) (B : Bi mg) {S_check_program : Spec} {j_check_program : Nat} (F_check_program : Fn P w K mg base j_check_program "check_program" S_check_program) (h_check_program : j_check_program ≤ k) {S_deepest : Spec} {j_deepest : Nat} (F_deepest : Fn P w K mg base j_deepest "deepest" S_deepest) (h_deepest : j_deepest ≤ k) {S : Spec} (len : ∀ ds Q Ex, S ds Q Ex → ds.length = 1) (spec : ∀ ds Q Ex, S ds Q Ex → t_depth S_check_program S_deepest (startD 1 ds) (endsOf Q Ex)) : FnOk P w K mg base (L2.CX P w) (k + 1) f fd ["program"] (spD K S) :=
  fnD F sc_depth (fun cdv A outer s H E g0 C => bd_depth B F_check_program h_check_program F_deepest h_deepest C) len spec
theorem fn_depth {k : Nat} (Y : Df K mg (top 15) "depth") (B : Bi mg) {S_check_program : Spec} {j_check_program : Nat} (F_check_program : Fn P w K mg base j_check_program "check_program" S_check_program) (h_check_program : j_check_program ≤ k) {S_deepest : Spec} {j_deepest : Nat} (F_deepest : Fn P w K mg base j_deepest "deepest" S_deepest) (h_deepest : j_deepest ≤ k) {S : Spec} (len : ∀ ds Q Ex, S ds Q Ex → ds.length = 1) (spec : ∀ ds Q Ex, S ds Q Ex → t_depth S_check_program S_deepest (startD 1 ds) (endsOf Q Ex)) : Fn P w K mg base (k + 1) "depth" S := by
  obtain ⟨fd, F, hm⟩ := Y
  exact fn_mk F (ok_depth F B F_check_program h_check_program F_deepest h_deepest len spec) hm (fun _ _ _ _ _ _ us hl => match us, hl with | [_], _ => rfl)

theorem sc_turned : FnScope ["way", "colour", "red", "blue", "step", "extra"] ["way", "colour", "red", "blue"] (defScope (top 16)) := ⟨rfl, rfl, rfl, by decide +kernel, rfl, by decide +kernel, by decide +kernel⟩
theorem bd_turned {k : Nat} {f : Addr} {cdv : Value} {A : Around} {outer : List PySem.Env} {s : Shared} {H : Hp} {E : XK} {g0 : Gh} (B : Bi mg) (C : Cn (cxD P w K mg base ["way", "colour", "red", "blue", "step", "extra"] "turned" (defScope (top 16)) f cdv A outer s H E) (wxD E) k) : DPs (cxD P w K mg base ["way", "colour", "red", "blue", "step", "extra"] "turned" (defScope (top 16)) f cdv A outer s H E) (wxD E) g0 (defBody (top 16)) (t_turned) := by
  exact dp_cons (dp_set 4 C.nd (de_getF C (de_disp (DPr.cons (de_str) (de_int) (DPr.cons (de_str) (de_neg (de_int)) (DPr.cons (de_str) (de_int) (DPr.cons (de_str) (de_int) (DPr.nil)))))) (de_var 0))) (dp_cons (dp_set 5 C.nd (de_ifExp (ct_eq C (de_var 0) (de_str)) (de_int) (de_int))) (dp_cons (dp_if (ct_eq C (de_var 1) (de_str)) (dp_one (dp_ret (de_tup (da_cons (de_add (de_var 2) (de_var 4)) (da_cons (de_add (de_var 3) (de_var 5)) (da_nil)))))) (dp_nil)) (dp_one (dp_ret (de_tup (da_cons (de_add (de_var 2) (de_var 5)) (da_cons (de_add (de_var 3) (de_var 4)) (da_nil))))))))
theorem ok_turned {k : Nat} {f : Addr} {fd : FuncData} (F : FunD K "turned" "turned" (defArgs (top 16)) (defBody (top 16)) (defScope (top 16)) [] [] f fd) (B : Bi mg) {S : Spec} (len : ∀ ds Q Ex, S ds Q Ex → ds.length = 4) (spec : ∀ ds Q Ex, S ds Q Ex → t_turned (startD 6 ds) (endsOf Q Ex)) : FnOk P w K mg base (L2.CX P w) (k + 1) f fd ["way", "colour", "red", "blue"] (spD K S) :=
  fnD F sc_turned (fun cdv A outer s H E g0 C => bd_turned B C) len spec
theorem fn_turned {k : Nat} (Y : Df K mg (top 16) "turned") (B : Bi mg) {S : Spec} (len : ∀ ds Q Ex, S ds Q Ex → ds.length = 4) (spec : ∀ ds Q Ex, S ds Q Ex → t_turned (startD 6 ds) (endsOf Q Ex)) : Fn P w K mg base (k + 1) "turned" S := by
  obtain ⟨fd, F, hm⟩ := Y
  exact fn_mk F (ok_turned F B len spec) hm (fun _ _ _ _ _ _ us hl => match us, hl with | [_, _, _, _], _ => rfl)

theorem sc_needed : FnScope ["program", "more", "found", "colour", "rest"] ["program", "more"] (defScope (top 17)) := ⟨rfl, rfl, rfl, by decide +kernel, rfl, by decide +kernel, by decide +kernel⟩
theorem bd_needed {k : Nat} {f : Addr} {cdv : Value} {A : Around} {outer : List PySem.Env} {s : Shared} {H : Hp} {E : XK} {g0 : Gh} (B : Bi mg) {S_needed : Spec} {j_needed : Nat} (F_needed : Fn P w K mg base j_needed "needed" S_needed) (h_needed : j_needed ≤ k) {S_turned : Spec} {j_turned : Nat} (F_turned : Fn P w K mg base j_turned "turned" S_turned) (h_turned : j_turned ≤ k) (c_COLOURS : Cs K mg "COLOURS" (.tup [(.str "red"), (.str "blue")])) (C : Cn (cxD P w K mg base ["program", "more", "found", "colour", "rest"] "needed" (defScope (top 17)) f cdv A outer s H E) (wxD E) k) : DPs (cxD P w K mg base ["program", "more", "found", "colour", "rest"] "needed" (defScope (top 17)) f cdv A outer s H E) (wxD E) g0 (defBody (top 17)) (t_needed S_needed S_turned) := by
  exact dp_cons (dp_if (ct_eq C (de_ix (de_var 0) (de_int)) (de_str)) (dp_one (dp_ret (de_int))) (dp_nil)) (dp_cons (dp_own 2 C.nd (df_lst (da_cons (de_sub (de_int) (de_var 1)) (da_nil)))) (dp_cons (dp_for (sl := [3, 4]) C (di_zip2 B (da_cons (de_cs c_COLOURS) (da_cons (de_sl (de_var 0) (do_some (de_int)) (do_none)) (da_nil)))) (fun g0 => dg_tup C.cm (dgs_cons (dg_name 3 C.nd) (dgs_cons (dg_name 4 C.nd) (dgs_nil))) (dlen_cons (live_n) (dlen_cons (live_n) (dlen_nil)))) (fun g0 => dp_one (dp_append 2 (de_call C F_needed h_needed (da_cons (de_var 4) (da_cons (de_add (de_var 1) (dc_sumT C B (da_cons (de_call C F_turned h_turned (da_cons (de_ix (de_var 0) (de_int)) (da_cons (de_var 3) (da_cons (de_int) (da_cons (de_int) (da_nil)))))) (da_nil)))) (da_nil))))))) (dp_one (dp_fz 2 (dp_ret (dc_maxL C B (da_cons (de_var 2) (da_nil))))))))
theorem ok_needed {k : Nat} {f : Addr} {fd : FuncData} (F : FunD K "needed" "needed" (defArgs (top 17)) (defBody (top 17)) (defScope (top 17)) [] [] f fd) (B : Bi mg) {S_needed : Spec} {j_needed : Nat} (F_needed : Fn P w K mg base j_needed "needed" S_needed) (h_needed : j_needed ≤ k) {S_turned : Spec} {j_turned : Nat} (F_turned : Fn P w K mg base j_turned "turned" S_turned) (h_turned : j_turned ≤ k) (c_COLOURS : Cs K mg "COLOURS" (.tup [(.str "red"), (.str "blue")])) {S : Spec} (len : ∀ ds Q Ex, S ds Q Ex → ds.length = 2) (spec : ∀ ds Q Ex, S ds Q Ex → t_needed S_needed S_turned (startD 5 ds) (endsOf Q Ex)) : FnOk P w K mg base (L2.CX P w) (k + 1) f fd ["program", "more"] (spD K S) :=
  fnD F sc_needed (fun cdv A outer s H E g0 C => bd_needed B F_needed h_needed F_turned h_turned c_COLOURS C) len spec
theorem fn_needed {k : Nat} (Y : Df K mg (top 17) "needed") (B : Bi mg) {S_needed : Spec} {j_needed : Nat} (F_needed : Fn P w K mg base j_needed "needed" S_needed) (h_needed : j_needed ≤ k) {S_turned : Spec} {j_turned : Nat} (F_turned : Fn P w K mg base j_turned "turned" S_turned) (h_turned : j_turned ≤ k) (c_COLOURS : Cs K mg "COLOURS" (.tup [(.str "red"), (.str "blue")])) {S : Spec} (len : ∀ ds Q Ex, S ds Q Ex → ds.length = 2) (spec : ∀ ds Q Ex, S ds Q Ex → t_needed S_needed S_turned (startD 5 ds) (endsOf Q Ex)) : Fn P w K mg base (k + 1) "needed" S := by
  obtain ⟨fd, F, hm⟩ := Y
  exact fn_mk F (ok_needed F B F_needed h_needed F_turned h_turned c_COLOURS len spec) hm (fun _ _ _ _ _ _ us hl => match us, hl with | [_, _], _ => rfl)
theorem no_needed {k : Nat} (Y : Df K mg (top 17) "needed") : Fn P w K mg base (k + 1) "needed" S_no := by
  obtain ⟨fd, F, hm⟩ := Y
  exact fn_no F sc_needed hm (fun _ _ _ _ _ _ us hl => match us, hl with | [_, _], _ => rfl)
theorem rec_needed {k : Nat} (Y : Df K mg (top 17) "needed") (B : Bi mg) {S_turned : Spec} {j_turned : Nat} (F_turned : Fn P w K mg base j_turned "turned" S_turned) (h_turned : j_turned ≤ k + 1) (c_COLOURS : Cs K mg "COLOURS" (.tup [(.str "red"), (.str "blue")])) {S : Nat → Spec} (len : ∀ N ds Q Ex, S N ds Q Ex → ds.length = 2) (p : ∀ (N : Nat) (SR : Spec), (∀ ds P Ex, N ≠ 0 → S (N - 1) ds P Ex → SR ds P Ex) → ∀ ds Q Ex, S N ds Q Ex → t_needed SR S_turned (startD 5 ds) (endsOf Q Ex)) : ∀ N : Nat, Fn P w K mg base (k + 2 + N) "needed" (S N)
  | 0 => fn_needed (k := k + 1) Y B (no_needed (k := k) Y) (Nat.le_refl _) F_turned h_turned c_COLOURS (len 0) (p 0 _ fun _ _ _ h0 _ => absurd rfl h0)
  | N + 1 => fn_needed (k := k + 2 + N) Y B (rec_needed Y B F_turned h_turned c_COLOURS len p N) (Nat.le_refl _) F_turned (Nat.le_trans h_turned (by omega)) c_COLOURS (len (N + 1)) (p (N + 1) _ fun _ _ _ _ h => h)

theorem sc_need : FnScope ["program"] ["program"] (defScope (top 18)) := ⟨rfl, rfl, rfl, by decide +kernel, rfl, by decide +kernel, by decide +kernel⟩
theorem bd_need {k : Nat} {f : Addr} {cdv : Value} {A : Around} {outer : List PySem.Env} {s : Shared} {H : Hp} {E : XK} {g0 : Gh} (B : Bi mg) {S_check_program : Spec} {j_check_program : Nat} (F_check_program : Fn P w K mg base j_check_program "check_program" S_check_program) (h_check_program : j_check_program ≤ k) {S_needed : Spec} {j_needed : Nat} (F_needed : Fn P w K mg base j_needed "needed" S_needed) (h_needed : j_needed ≤ k) (C : Cn (cxD P w K mg base ["program"] "need" (defScope (top 18)) f cdv A outer s H E) (wxD E) k) : DPs (cxD P w K mg base ["program"] "need" (defScope (top 18)) f cdv A outer s H E) (wxD E) g0 (defBody (top 18)) (t_need S_check_program S_needed) := by
  exact dp_cons (dp_expr (de_call C F_check_program h_check_program (da_cons (de_var 0) (da_nil)))) (dp_one (dp_ret (dc_max2 C B (da_cons (de_int) (da_cons (de_call C F_needed h_needed (da_cons (de_var 0) (da_cons (de_int) (da_nil)))) (da_nil))))))
theorem ok_need {k : Nat} {f : Addr} {fd : FuncData} (F : FunD K "need" "need" (defArgs (top 18)) (defBody (top 18)) (defScope (top 18)) [] [] f fd) (B : Bi mg) {S_check_program : Spec} {j_check_program : Nat} (F_check_program : Fn P w K mg base j_check_program "check_program" S_check_program) (h_check_program : j_check_program ≤ k) {S_needed : Spec} {j_needed : Nat} (F_needed : Fn P w K mg base j_needed "needed" S_needed) (h_needed : j_needed ≤ k) {S : Spec} (len : ∀ ds Q Ex, S ds Q Ex → ds.length = 1) (spec : ∀ ds Q Ex, S ds Q Ex → t_need S_check_program S_needed (startD 1 ds) (endsOf Q Ex)) : FnOk P w K mg base (L2.CX P w) (k + 1) f fd ["program"] (spD K S) :=
  fnD F sc_need (fun cdv A outer s H E g0 C => bd_need B F_check_program h_check_program F_needed h_needed C) len spec
theorem fn_need {k : Nat} (Y : Df K mg (top 18) "need") (B : Bi mg) {S_check_program : Spec} {j_check_program : Nat} (F_check_program : Fn P w K mg base j_check_program "check_program" S_check_program) (h_check_program : j_check_program ≤ k) {S_needed : Spec} {j_needed : Nat} (F_needed : Fn P w K mg base j_needed "needed" S_needed) (h_needed : j_needed ≤ k) {S : Spec} (len : ∀ ds Q Ex, S ds Q Ex → ds.length = 1) (spec : ∀ ds Q Ex, S ds Q Ex → t_need S_check_program S_needed (startD 1 ds) (endsOf Q Ex)) : Fn P w K mg base (k + 1) "need" S := by
  obtain ⟨fd, F, hm⟩ := Y
  exact fn_mk F (ok_need F B F_check_program h_check_program F_needed h_needed len spec) hm (fun _ _ _ _ _ _ us hl => match us, hl with | [_], _ => rfl)

def t_made_plain (S_made_plain : Spec) : DS := dSeq (dIfS (dTest (dOp fEq (dOp fIx (dVar 0) (dC (.int 0))) (dC (.str "mark")))) (dRet (dVar 0)) (dNext)) (dSeq (dPar 1 2 (dCons (dCall S_made_plain (dCons (dOp fIx (dVar 0) (dC (.int 2))) (dNil))) (dCons (dCall S_made_plain (dCons (dOp fIx (dVar 0) (dC (.int 3))) (dNil))) (dNil)))) (dSeq (dIfS (dAnd (dTest (dOp fEq (dOp fIx (dVar 0) (dC (.int 1))) (dC (.str "back")))) (dTest (dOp fEq (dVar 1) (dVar 2)))) (dRet (dVar 1)) (dNext)) (dRet (dTup (dCons (dC (.str "draw")) (dCons (dOp fIx (dVar 0) (dC (.int 1))) (dCons (dVar 1) (dCons (dVar 2) (dNil)))))))))
theorem sc_made_plain : FnScope ["program", "red", "blue"] ["program"] (defScope (top 19)) := ⟨rfl, rfl, rfl, by decide +kernel, rfl, by decide +kernel, by decide +kernel⟩
theorem bd_made_plain {k : Nat} {f : Addr} {cdv : Value} {A : Around} {outer : List PySem.Env} {s : Shared} {H : Hp} {E : XK} {g0 : Gh} (B : Bi mg) {S_made_plain : Spec} {j_made_plain : Nat} (F_made_plain : Fn P w K mg base j_made_plain "made_plain" S_made_plain) (h_made_plain : j_made_plain ≤ k) (C : Cn (cxD P w K mg base ["program", "red", "blue"] "made_plain" (defScope (top 19)) f cdv A outer s H E) (wxD E) k) : DPs (cxD P w K mg base ["program", "red", "blue"] "made_plain" (defScope (top 19)) f cdv A outer s H E) (wxD E) g0 (defBody (top 19)) (t_made_plain S_made_plain) := by
  exact dp_cons (dp_if (ct_eq C (de_ix (de_var 0) (de_int)) (de_str)) (dp_one (dp_ret (de_var 0))) (dp_nil)) (dp_cons (dp_par 1 2 C (by decide) (da_cons (de_call C F_made_plain h_made_plain (da_cons (de_ix (de_var 0) (de_int)) (da_nil))) (da_cons (de_call C F_made_plain h_made_plain (da_cons (de_ix (de_var 0) (de_int)) (da_nil))) (da_nil))) (by rfl)) (dp_cons (dp_if (dt_w (dw_and (ct_eq C (de_ix (de_var 0) (de_int)) (de_str)) (dw_and1 (ct_eq C (de_var 1) (de_var 2))))) (dp_one (dp_ret (de_var 1))) (dp_nil)) (dp_one (dp_ret (de_tup (da_cons (de_str) (da_cons (de_ix (de_var 0) (de_int)) (da_cons (de_var 1) (da_cons (de_var 2) (da_nil))))))))))
theorem ok_made_plain {k : Nat} {f : Addr} {fd : FuncData} (F : FunD K "made_plain" "made_plain" (defArgs (top 19)) (defBody (top 19)) (defScope (top 19)) [] [] f fd) (B : Bi mg) {S_made_plain : Spec} {j_made_plain : Nat} (F_made_plain : Fn P w K mg base j_made_plain "made_plain" S_made_plain) (h_made_plain : j_made_plain ≤ k) {S : Spec} (len : ∀ ds Q Ex, S ds Q Ex → ds.length = 1) (spec : ∀ ds Q Ex, S ds Q Ex → t_made_plain S_made_plain (startD 3 ds) (endsOf Q Ex)) : FnOk P w K mg base (L2.CX P w) (k + 1) f fd ["program"] (spD K S) :=
  fnD F sc_made_plain (fun cdv A outer s H E g0 C => bd_made_plain B F_made_plain h_made_plain C) len spec
theorem fn_made_plain {k : Nat} (Y : Df K mg (top 19) "made_plain") (B : Bi mg) {S_made_plain : Spec} {j_made_plain : Nat} (F_made_plain : Fn P w K mg base j_made_plain "made_plain" S_made_plain) (h_made_plain : j_made_plain ≤ k) {S : Spec} (len : ∀ ds Q Ex, S ds Q Ex → ds.length = 1) (spec : ∀ ds Q Ex, S ds Q Ex → t_made_plain S_made_plain (startD 3 ds) (endsOf Q Ex)) : Fn P w K mg base (k + 1) "made_plain" S := by
  obtain ⟨fd, F, hm⟩ := Y
  exact fn_mk F (ok_made_plain F B F_made_plain h_made_plain len spec) hm (fun _ _ _ _ _ _ us hl => match us, hl with | [_], _ => rfl)
theorem no_made_plain {k : Nat} (Y : Df K mg (top 19) "made_plain") : Fn P w K mg base (k + 1) "made_plain" S_no := by
  obtain ⟨fd, F, hm⟩ := Y
  exact fn_no F sc_made_plain hm (fun _ _ _ _ _ _ us hl => match us, hl with | [_], _ => rfl)
theorem rec_made_plain {k : Nat} (Y : Df K mg (top 19) "made_plain") (B : Bi mg) {S : Nat → Spec} (len : ∀ N ds Q Ex, S N ds Q Ex → ds.length = 1) (p : ∀ (N : Nat) (SR : Spec), (∀ ds P Ex, N ≠ 0 → S (N - 1) ds P Ex → SR ds P Ex) → ∀ ds Q Ex, S N ds Q Ex → t_made_plain SR (startD 3 ds) (endsOf Q Ex)) : ∀ N : Nat, Fn P w K mg base (k + 2 + N) "made_plain" (S N)
  | 0 => fn_made_plain (k := k + 1) Y B (no_made_plain (k := k) Y) (Nat.le_refl _) (len 0) (p 0 _ fun _ _ _ h0 _ => absurd rfl h0)
  | N + 1 => fn_made_plain (k := k + 2 + N) Y B (rec_made_plain Y B len p N) (Nat.le_refl _) (len (N + 1)) (p (N + 1) _ fun _ _ _ _ h => h)

def t_plain (S_check_program : Spec) (S_made_plain : Spec) : DS := dSeq (dDrop (dCall S_check_program (dCons (dVar 0) (dNil)))) (dRet (dCall S_made_plain (dCons (dVar 0) (dNil))))
theorem sc_plain : FnScope ["program"] ["program"] (defScope (top 20)) := ⟨rfl, rfl, rfl, by decide +kernel, rfl, by decide +kernel, by decide +kernel⟩
theorem bd_plain {k : Nat} {f : Addr} {cdv : Value} {A : Around} {outer : List PySem.Env} {s : Shared} {H : Hp} {E : XK} {g0 : Gh} (B : Bi mg) {S_check_program : Spec} {j_check_program : Nat} (F_check_program : Fn P w K mg base j_check_program "check_program" S_check_program) (h_check_program : j_check_program ≤ k) {S_made_plain : Spec} {j_made_plain : Nat} (F_made_plain : Fn P w K mg base j_made_plain "made_plain" S_made_plain) (h_made_plain : j_made_plain ≤ k) (C : Cn (cxD P w K mg base ["program"] "plain" (defScope (top 20)) f cdv A outer s H E) (wxD E) k) : DPs (cxD P w K mg base ["program"] "plain" (defScope (top 20)) f cdv A outer s H E) (wxD E) g0 (defBody (top 20)) (t_plain S_check_program S_made_plain) := by
  exact dp_cons (dp_expr (de_call C F_check_program h_check_program (da_cons (de_var 0) (da_nil)))) (dp_one (dp_ret (de_call C F_made_plain h_made_plain (da_cons (de_var 0) (da_nil)))))
theorem ok_plain {k : Nat} {f : Addr} {fd : FuncData} (F : FunD K "plain" "plain" (defArgs (top 20)) (defBody (top 20)) (defScope (top 20)) [] [] f fd) (B : Bi mg) {S_check_program : Spec} {j_check_program : Nat} (F_check_program : Fn P w K mg base j_check_program "check_program" S_check_program) (h_check_program : j_check_program ≤ k) {S_made_plain : Spec} {j_made_plain : Nat} (F_made_plain : Fn P w K mg base j_made_plain "made_plain" S_made_plain) (h_made_plain : j_made_plain ≤ k) {S : Spec} (len : ∀ ds Q Ex, S ds Q Ex → ds.length = 1) (spec : ∀ ds Q Ex, S ds Q Ex → t_plain S_check_program S_made_plain (startD 1 ds) (endsOf Q Ex)) : FnOk P w K mg base (L2.CX P w) (k + 1) f fd ["program"] (spD K S) :=
  fnD F sc_plain (fun cdv A outer s H E g0 C => bd_plain B F_check_program h_check_program F_made_plain h_made_plain C) len spec
theorem fn_plain {k : Nat} (Y : Df K mg (top 20) "plain") (B : Bi mg) {S_check_program : Spec} {j_check_program : Nat} (F_check_program : Fn P w K mg base j_check_program "check_program" S_check_program) (h_check_program : j_check_program ≤ k) {S_made_plain : Spec} {j_made_plain : Nat} (F_made_plain : Fn P w K mg base j_made_plain "made_plain" S_made_plain) (h_made_plain : j_made_plain ≤ k) {S : Spec} (len : ∀ ds Q Ex, S ds Q Ex → ds.length = 1) (spec : ∀ ds Q Ex, S ds Q Ex → t_plain S_check_program S_made_plain (startD 1 ds) (endsOf Q Ex)) : Fn P w K mg base (k + 1) "plain" S := by
  obtain ⟨fd, F, hm⟩ := Y
  exact fn_mk F (ok_plain F B F_check_program h_check_program F_made_plain h_made_plain len spec) hm (fun _ _ _ _ _ _ us hl => match us, hl with | [_], _ => rfl)

theorem sc__law_ways : FnScope [] [] (defScope (top 24)) := ⟨rfl, rfl, rfl, by decide +kernel, rfl, by decide +kernel, by decide +kernel⟩
theorem bd__law_ways {k : Nat} {f : Addr} {cdv : Value} {A : Around} {outer : List PySem.Env} {s : Shared} {H : Hp} {E : XK} {g0 : Gh} (B : Bi mg) (C : Cn (cxD P w K mg base [] "_law_ways" (defScope (top 24)) f cdv A outer s H E) (wxD E) k) : DPs (cxD P w K mg base [] "_law_ways" (defScope (top 24)) f cdv A outer s H E) (wxD E) g0 (defBody (top 24)) (t__law_ways) := by
  exact dp_one (dp_ret (de_lst (da_cons (de_str) (da_cons (de_str) (da_cons (de_str) (da_cons (de_str) (da_nil)))))))
theorem ok__law_ways {k : Nat} {f : Addr} {fd : FuncData} (F : FunD K "_law_ways" "_law_ways" (defArgs (top 24)) (defBody (top 24)) (defScope (top 24)) [] [] f fd) (B : Bi mg) {S : Spec} (len : ∀ ds Q Ex, S ds Q Ex → ds.length = 0) (spec : ∀ ds Q Ex, S ds Q Ex → t__law_ways (startD 0 ds) (endsOf Q Ex)) : FnOk P w K mg base (L2.CX P w) (k + 1) f fd [] (spD K S) :=
  fnD F sc__law_ways (fun cdv A outer s H E g0 C => bd__law_ways B C) len spec
theorem fn__law_ways {k : Nat} (Y : Df K mg (top 24) "_law_ways") (B : Bi mg) {S : Spec} (len : ∀ ds Q Ex, S ds Q Ex → ds.length = 0) (spec : ∀ ds Q Ex, S ds Q Ex → t__law_ways (startD 0 ds) (endsOf Q Ex)) : Fn P w K mg base (k + 1) "_law_ways" S := by
  obtain ⟨fd, F, hm⟩ := Y
  exact fn_mk F (ok__law_ways F B len spec) hm (fun _ _ _ _ _ _ us hl => match us, hl with | [], _ => rfl)

theorem sc__law_program : FnScope ["_law_draws", "_law_deep_here", "_law_way"] ["_law_draws", "_law_deep_here"] (defScope (top 25)) := ⟨rfl, rfl, rfl, by decide +kernel, rfl, by decide +kernel, by decide +kernel⟩
theorem bd__law_program {k : Nat} {f : Addr} {cdv : Value} {A : Around} {outer : List PySem.Env} {s : Shared} {H : Hp} {E : XK} {g0 : Gh} (B : Bi mg) {S__law_draw : Spec} {j__law_draw : Nat} (F__law_draw : Fn P w K mg base j__law_draw "_law_draw" S__law_draw) (h__law_draw : j__law_draw ≤ k) {S__law_ways : Spec} {j__law_ways : Nat} (F__law_ways : Fn P w K mg base j__law_ways "_law_ways" S__law_ways) (h__law_ways : j__law_ways ≤ k) {S__law_program : Spec} {j__law_program : Nat} (F__law_program : Fn P w K mg base j__law_program "_law_program" S__law_program) (h__law_program : j__law_program ≤ k) (C : Cn (cxD P w K mg base ["_law_draws", "_law_deep_here", "_law_way"] "_law_program" (defScope (top 25)) f cdv A outer s H E) (wxD E) k) : DPs (cxD P w K mg base ["_law_draws", "_law_deep_here", "_law_way"] "_law_program" (defScope (top 25)) f cdv A outer s H E) (wxD E) g0 (defBody (top 25)) (t__law_program S__law_draw S__law_ways S__law_program) := by
  exact dp_cons (dp_if (dt_w (dw_or (ct_eq C (de_var 1) (de_int)) (dw_or1 (ct_eq C (de_call C F__law_draw h__law_draw (da_cons (de_var 0) (da_cons (de_int) (da_nil)))) (de_int))))) (dp_one (dp_ret (de_tup (da_cons (de_str) (da_cons (de_ix (de_lst (da_cons (de_str) (da_cons (de_str) (da_cons (de_str) (da_nil))))) (de_call C F__law_draw h__law_draw (da_cons (de_var 0) (da_cons (de_int) (da_nil))))) (da_nil)))))) (dp_nil)) (dp_cons (dp_set 2 C.nd (de_ix (de_call0 C F__law_ways h__law_ways) (de_call C F__law_draw h__law_draw (da_cons (de_var 0) (da_cons (de_int) (da_nil)))))) (dp_one (dp_ret (de_tup (da_cons (de_str) (da_cons (de_var 2) (da_cons (de_call C F__law_program h__law_program (da_cons (de_var 0) (da_cons (de_sub (de_var 1) (de_int)) (da_nil)))) (da_cons (de_call C F__law_program h__law_program (da_cons (de_var 0) (da_cons (de_sub (de_var 1) (de_int)) (da_nil)))) (da_nil)))))))))
theorem ok__law_program {k : Nat} {f : Addr} {fd : FuncData} (F : FunD K "_law_program" "_law_program" (defArgs (top 25)) (defBody (top 25)) (defScope (top 25)) [] [] f fd) (B : Bi mg) {S__law_draw : Spec} {j__law_draw : Nat} (F__law_draw : Fn P w K mg base j__law_draw "_law_draw" S__law_draw) (h__law_draw : j__law_draw ≤ k) {S__law_ways : Spec} {j__law_ways : Nat} (F__law_ways : Fn P w K mg base j__law_ways "_law_ways" S__law_ways) (h__law_ways : j__law_ways ≤ k) {S__law_program : Spec} {j__law_program : Nat} (F__law_program : Fn P w K mg base j__law_program "_law_program" S__law_program) (h__law_program : j__law_program ≤ k) {S : Spec} (len : ∀ ds Q Ex, S ds Q Ex → ds.length = 2) (spec : ∀ ds Q Ex, S ds Q Ex → t__law_program S__law_draw S__law_ways S__law_program (startD 3 ds) (endsOf Q Ex)) : FnOk P w K mg base (L2.CX P w) (k + 1) f fd ["_law_draws", "_law_deep_here"] (spD K S) :=
  fnD F sc__law_program (fun cdv A outer s H E g0 C => bd__law_program B F__law_draw h__law_draw F__law_ways h__law_ways F__law_program h__law_program C) len spec
theorem fn__law_program {k : Nat} (Y : Df K mg (top 25) "_law_program") (B : Bi mg) {S__law_draw : Spec} {j__law_draw : Nat} (F__law_draw : Fn P w K mg base j__law_draw "_law_draw" S__law_draw) (h__law_draw : j__law_draw ≤ k) {S__law_ways : Spec} {j__law_ways : Nat} (F__law_ways : Fn P w K mg base j__law_ways "_law_ways" S__law_ways) (h__law_ways : j__law_ways ≤ k) {S__law_program : Spec} {j__law_program : Nat} (F__law_program : Fn P w K mg base j__law_program "_law_program" S__law_program) (h__law_program : j__law_program ≤ k) {S : Spec} (len : ∀ ds Q Ex, S ds Q Ex → ds.length = 2) (spec : ∀ ds Q Ex, S ds Q Ex → t__law_program S__law_draw S__law_ways S__law_program (startD 3 ds) (endsOf Q Ex)) : Fn P w K mg base (k + 1) "_law_program" S := by
  obtain ⟨fd, F, hm⟩ := Y
  exact fn_mk F (ok__law_program F B F__law_draw h__law_draw F__law_ways h__law_ways F__law_program h__law_program len spec) hm (fun _ _ _ _ _ _ us hl => match us, hl with | [_, _], _ => rfl)
theorem no__law_program {k : Nat} (Y : Df K mg (top 25) "_law_program") : Fn P w K mg base (k + 1) "_law_program" S_no := by
  obtain ⟨fd, F, hm⟩ := Y
  exact fn_no F sc__law_program hm (fun _ _ _ _ _ _ us hl => match us, hl with | [_, _], _ => rfl)
theorem rec__law_program {k : Nat} (Y : Df K mg (top 25) "_law_program") (B : Bi mg) {S__law_draw : Spec} {j__law_draw : Nat} (F__law_draw : Fn P w K mg base j__law_draw "_law_draw" S__law_draw) (h__law_draw : j__law_draw ≤ k + 1) {S__law_ways : Spec} {j__law_ways : Nat} (F__law_ways : Fn P w K mg base j__law_ways "_law_ways" S__law_ways) (h__law_ways : j__law_ways ≤ k + 1) {S : Nat → Spec} (len : ∀ N ds Q Ex, S N ds Q Ex → ds.length = 2) (p : ∀ (N : Nat) (SR : Spec), (∀ ds P Ex, N ≠ 0 → S (N - 1) ds P Ex → SR ds P Ex) → ∀ ds Q Ex, S N ds Q Ex → t__law_program S__law_draw S__law_ways SR (startD 3 ds) (endsOf Q Ex)) : ∀ N : Nat, Fn P w K mg base (k + 2 + N) "_law_program" (S N)
  | 0 => fn__law_program (k := k + 1) Y B F__law_draw h__law_draw F__law_ways h__law_ways (no__law_program (k := k) Y) (Nat.le_refl _) (len 0) (p 0 _ fun _ _ _ h0 _ => absurd rfl h0)
  | N + 1 => fn__law_program (k := k + 2 + N) Y B F__law_draw (Nat.le_trans h__law_draw (by omega)) F__law_ways (Nat.le_trans h__law_ways (by omega)) (rec__law_program Y B F__law_draw h__law_draw F__law_ways h__law_ways len p N) (Nat.le_refl _) (len (N + 1)) (p (N + 1) _ fun _ _ _ _ h => h)

theorem sc__law_need : FnScope ["_law_program_here", "_law_more", "_law_step"] ["_law_program_here", "_law_more"] (defScope (top 28)) := ⟨rfl, rfl, rfl, by decide +kernel, rfl, by decide +kernel, by decide +kernel⟩
theorem bd__law_need {k : Nat} {f : Addr} {cdv : Value} {A : Around} {outer : List PySem.Env} {s : Shared} {H : Hp} {E : XK} {g0 : Gh} (B : Bi mg) {S__law_need : Spec} {j__law_need : Nat} (F__law_need : Fn P w K mg base j__law_need "_law_need" S__law_need) (h__law_need : j__law_need ≤ k) (C : Cn (cxD P w K mg base ["_law_program_here", "_law_more", "_law_step"] "_law_need" (defScope (top 28)) f cdv A outer s H E) (wxD E) k) : DPs (cxD P w K mg base ["_law_program_here", "_law_more", "_law_step"] "_law_need" (defScope (top 28)) f cdv A outer s H E) (wxD E) g0 (defBody (top 28)) (t__law_need S__law_need) := by
  exact dp_cons (dp_if (ct_eq C (de_ix (de_var 0) (de_int)) (de_str)) (dp_one (dp_ret (de_int))) (dp_nil)) (dp_cons (dp_set 2 C.nd (de_getF C (de_disp (DPr.cons (de_str) (de_int) (DPr.cons (de_str) (de_neg (de_int)) (DPr.cons (de_str) (de_int) (DPr.cons (de_str) (de_int) (DPr.nil)))))) (de_ix (de_var 0) (de_int)))) (dp_one (dp_ret (dc_max3 C B (da_cons (de_sub (de_int) (de_var 1)) (da_cons (de_call C F__law_need h__law_need (da_cons (de_ix (de_var 0) (de_int)) (da_cons (de_add (de_var 1) (de_var 2)) (da_nil)))) (da_cons (de_call C F__law_need h__law_need (da_cons (de_ix (de_var 0) (de_int)) (da_cons (de_add (de_var 1) (de_var 2)) (da_nil)))) (da_nil))))))))
theorem ok__law_need {k : Nat} {f : Addr} {fd : FuncData} (F : FunD K "_law_need" "_law_need" (defArgs (top 28)) (defBody (top 28)) (defScope (top 28)) [] [] f fd) (B : Bi mg) {S__law_need : Spec} {j__law_need : Nat} (F__law_need : Fn P w K mg base j__law_need "_law_need" S__law_need) (h__law_need : j__law_need ≤ k) {S : Spec} (len : ∀ ds Q Ex, S ds Q Ex → ds.length = 2) (spec : ∀ ds Q Ex, S ds Q Ex → t__law_need S__law_need (startD 3 ds) (endsOf Q Ex)) : FnOk P w K mg base (L2.CX P w) (k + 1) f fd ["_law_program_here", "_law_more"] (spD K S) :=
  fnD F sc__law_need (fun cdv A outer s H E g0 C => bd__law_need B F__law_need h__law_need C) len spec
theorem fn__law_need {k : Nat} (Y : Df K mg (top 28) "_law_need") (B : Bi mg) {S__law_need : Spec} {j__law_need : Nat} (F__law_need : Fn P w K mg base j__law_need "_law_need" S__law_need) (h__law_need : j__law_need ≤ k) {S : Spec} (len : ∀ ds Q Ex, S ds Q Ex → ds.length = 2) (spec : ∀ ds Q Ex, S ds Q Ex → t__law_need S__law_need (startD 3 ds) (endsOf Q Ex)) : Fn P w K mg base (k + 1) "_law_need" S := by
  obtain ⟨fd, F, hm⟩ := Y
  exact fn_mk F (ok__law_need F B F__law_need h__law_need len spec) hm (fun _ _ _ _ _ _ us hl => match us, hl with | [_, _], _ => rfl)
theorem no__law_need {k : Nat} (Y : Df K mg (top 28) "_law_need") : Fn P w K mg base (k + 1) "_law_need" S_no := by
  obtain ⟨fd, F, hm⟩ := Y
  exact fn_no F sc__law_need hm (fun _ _ _ _ _ _ us hl => match us, hl with | [_, _], _ => rfl)
theorem rec__law_need {k : Nat} (Y : Df K mg (top 28) "_law_need") (B : Bi mg) {S : Nat → Spec} (len : ∀ N ds Q Ex, S N ds Q Ex → ds.length = 2) (p : ∀ (N : Nat) (SR : Spec), (∀ ds P Ex, N ≠ 0 → S (N - 1) ds P Ex → SR ds P Ex) → ∀ ds Q Ex, S N ds Q Ex → t__law_need SR (startD 3 ds) (endsOf Q Ex)) : ∀ N : Nat, Fn P w K mg base (k + 2 + N) "_law_need" (S N)
  | 0 => fn__law_need (k := k + 1) Y B (no__law_need (k := k) Y) (Nat.le_refl _) (len 0) (p 0 _ fun _ _ _ h0 _ => absurd rfl h0)
  | N + 1 => fn__law_need (k := k + 2 + N) Y B (rec__law_need Y B len p N) (Nat.le_refl _) (len (N + 1)) (p (N + 1) _ fun _ _ _ _ h => h)

def t__law_refused (m_BadProgram : Str → Option Bool) (S_marks : Spec) (S_depth : Spec) (S_need : Spec) (S_plain : Spec) : DS := dSeq (dSet 2 (dC (.bl false))) (dSeq (dTry m_BadProgram (dIfS (dTest (dOp fEq (dVar 1) (dC (.int 0)))) (dDrop (dCall S_marks (dCons (dVar 0) (dNil)))) (dIfS (dTest (dOp fEq (dVar 1) (dC (.int 1)))) (dDrop (dCall S_depth (dCons (dVar 0) (dNil)))) (dIfS (dTest (dOp fEq (dVar 1) (dC (.int 2)))) (dDrop (dCall S_need (dCons (dVar 0) (dNil)))) (dDrop (dCall S_plain (dCons (dVar 0) (dNil))))))) (dSet 2 (dC (.bl true)))) (dRet (dVar 2)))
theorem sc__law_refused : FnScope ["_law_thing", "_law_what", "_law_told"] ["_law_thing", "_law_what"] (defScope (top 35)) := ⟨rfl, rfl, rfl, by decide +kernel, rfl, by decide +kernel, by decide +kernel⟩
theorem bd__law_refused {k : Nat} {f : Addr} {cdv : Value} {A : Around} {outer : List PySem.Env} {s : Shared} {H : Hp} {E : XK} {g0 : Gh} (B : Bi mg) {S_marks : Spec} {j_marks : Nat} (F_marks : Fn P w K mg base j_marks "marks" S_marks) (h_marks : j_marks ≤ k) {S_depth : Spec} {j_depth : Nat} (F_depth : Fn P w K mg base j_depth "depth" S_depth) (h_depth : j_depth ≤ k) {S_need : Spec} {j_need : Nat} (F_need : Fn P w K mg base j_need "need" S_need) (h_need : j_need ≤ k) {S_plain : Spec} {j_plain : Nat} (F_plain : Fn P w K mg base j_plain "plain" S_plain) (h_plain : j_plain ≤ k) (X_BadProgram : XCls K mg "BadProgram") {m_BadProgram : Str → Option Bool} (M_BadProgram : Em K "BadProgram" m_BadProgram) (C : Cn (cxD P w K mg base ["_law_thing", "_law_what", "_law_told"] "_law_refused" (defScope (top 35)) f cdv A outer s H E) (wxD E) k) : DPs (cxD P w K mg base ["_law_thing", "_law_what", "_law_told"] "_law_refused" (defScope (top 35)) f cdv A outer s H E) (wxD E) g0 (defBody (top 35)) (t__law_refused m_BadProgram S_marks S_depth S_need S_plain) := by
  exact dp_cons (dp_set 2 C.nd (de_bl)) (dp_cons (dp_try C X_BadProgram M_BadProgram (fun W0 pn xe C => dp_one (dp_if (ct_eq C (de_var 1) (de_int)) (dp_one (dp_expr (de_call C F_marks h_marks (da_cons (de_var 0) (da_nil))))) (dp_one (dp_if (ct_eq C (de_var 1) (de_int)) (dp_one (dp_expr (de_call C F_depth h_depth (da_cons (de_var 0) (da_nil))))) (dp_one (dp_if (ct_eq C (de_var 1) (de_int)) (dp_one (dp_expr (de_call C F_need h_need (da_cons (de_var 0) (da_nil))))) (dp_one (dp_expr (de_call C F_plain h_plain (da_cons (de_var 0) (da_nil))))))))))) (fun a pn => dp_one (dp_set 2 C.nd (de_bl)))) (dp_one (dp_ret (de_var 2))))
theorem ok__law_refused {k : Nat} {f : Addr} {fd : FuncData} (F : FunD K "_law_refused" "_law_refused" (defArgs (top 35)) (defBody (top 35)) (defScope (top 35)) [] [] f fd) (B : Bi mg) {S_marks : Spec} {j_marks : Nat} (F_marks : Fn P w K mg base j_marks "marks" S_marks) (h_marks : j_marks ≤ k) {S_depth : Spec} {j_depth : Nat} (F_depth : Fn P w K mg base j_depth "depth" S_depth) (h_depth : j_depth ≤ k) {S_need : Spec} {j_need : Nat} (F_need : Fn P w K mg base j_need "need" S_need) (h_need : j_need ≤ k) {S_plain : Spec} {j_plain : Nat} (F_plain : Fn P w K mg base j_plain "plain" S_plain) (h_plain : j_plain ≤ k) (X_BadProgram : XCls K mg "BadProgram") {m_BadProgram : Str → Option Bool} (M_BadProgram : Em K "BadProgram" m_BadProgram) {S : Spec} (len : ∀ ds Q Ex, S ds Q Ex → ds.length = 2) (spec : ∀ ds Q Ex, S ds Q Ex → t__law_refused m_BadProgram S_marks S_depth S_need S_plain (startD 3 ds) (endsOf Q Ex)) : FnOk P w K mg base (L2.CX P w) (k + 1) f fd ["_law_thing", "_law_what"] (spD K S) :=
  fnD F sc__law_refused (fun cdv A outer s H E g0 C => bd__law_refused B F_marks h_marks F_depth h_depth F_need h_need F_plain h_plain X_BadProgram M_BadProgram C) len spec
theorem fn__law_refused {k : Nat} (Y : Df K mg (top 35) "_law_refused") (B : Bi mg) {S_marks : Spec} {j_marks : Nat} (F_marks : Fn P w K mg base j_marks "marks" S_marks) (h_marks : j_marks ≤ k) {S_depth : Spec} {j_depth : Nat} (F_depth : Fn P w K mg base j_depth "depth" S_depth) (h_depth : j_depth ≤ k) {S_need : Spec} {j_need : Nat} (F_need : Fn P w K mg base j_need "need" S_need) (h_need : j_need ≤ k) {S_plain : Spec} {j_plain : Nat} (F_plain : Fn P w K mg base j_plain "plain" S_plain) (h_plain : j_plain ≤ k) (X_BadProgram : XCls K mg "BadProgram") {m_BadProgram : Str → Option Bool} (M_BadProgram : Em K "BadProgram" m_BadProgram) {S : Spec} (len : ∀ ds Q Ex, S ds Q Ex → ds.length = 2) (spec : ∀ ds Q Ex, S ds Q Ex → t__law_refused m_BadProgram S_marks S_depth S_need S_plain (startD 3 ds) (endsOf Q Ex)) : Fn P w K mg base (k + 1) "_law_refused" S := by
  obtain ⟨fd, F, hm⟩ := Y
  exact fn_mk F (ok__law_refused F B F_marks h_marks F_depth h_depth F_need h_need F_plain h_plain X_BadProgram M_BadProgram len spec) hm (fun _ _ _ _ _ _ us hl => match us, hl with | [_, _], _ => rfl)

def t__law_all (S__law_all : Spec) : DS := dSeq (dIfS (dTest (dOp fEq (dOp fIx (dVar 0) (dC (.int 0))) (dC (.str "mark")))) (dRet (dLst (dCons (dOp fIx (dVar 0) (dC (.int 1))) (dNil)))) (dNext)) (dRet (dOp fAdd (dCall S__law_all (dCons (dOp fIx (dVar 0) (dC (.int 2))) (dNil))) (dCall S__law_all (dCons (dOp fIx (dVar 0) (dC (.int 3))) (dNil)))))
theorem sc__law_all : FnScope ["_law_program_here"] ["_law_program_here"] (defScope (top 36)) := ⟨rfl, rfl, rfl, by decide +kernel, rfl, by decide +kernel, by decide +kernel⟩
theorem bd__law_all {k : Nat} {f : Addr} {cdv : Value} {A : Around} {outer : List PySem.Env} {s : Shared} {H : Hp} {E : XK} {g0 : Gh} (B : Bi mg) {S__law_all : Spec} {j__law_all : Nat} (F__law_all : Fn P w K mg base j__law_all "_law_all" S__law_all) (h__law_all : j__law_all ≤ k) (C : Cn (cxD P w K mg base ["_law_program_here"] "_law_all" (defScope (top 36)) f cdv A outer s H E) (wxD E) k) : DPs (cxD P w K mg base ["_law_program_here"] "_law_all" (defScope (top 36)) f cdv A outer s H E) (wxD E) g0 (defBody (top 36)) (t__law_all S__law_all) := by
  exact dp_cons (dp_if (ct_eq C (de_ix (de_var 0) (de_int)) (de_str)) (dp_one (dp_ret (de_lst (da_cons (de_ix (de_var 0) (de_int)) (da_nil))))) (dp_nil)) (dp_one (dp_ret (de_add (de_call C F__law_all h__law_all (da_cons (de_ix (de_var 0) (de_int)) (da_nil))) (de_call C F__law_all h__law_all (da_cons (de_ix (de_var 0) (de_int)) (da_nil))))))
theorem ok__law_all {k : Nat} {f : Addr} {fd : FuncData} (F : FunD K "_law_all" "_law_all" (defArgs (top 36)) (defBody (top 36)) (defScope (top 36)) [] [] f fd) (B : Bi mg) {S__law_all : Spec} {j__law_all : Nat} (F__law_all : Fn P w K mg base j__law_all "_law_all" S__law_all) (h__law_all : j__law_all ≤ k) {S : Spec} (len : ∀ ds Q Ex, S ds Q Ex → ds.length = 1) (spec : ∀ ds Q Ex, S ds Q Ex → t__law_all S__law_all (startD 1 ds) (endsOf Q Ex)) : FnOk P w K mg base (L2.CX P w) (k + 1) f fd ["_law_program_here"] (spD K S) :=
  fnD F sc__law_all (fun cdv A outer s H E g0 C => bd__law_all B F__law_all h__law_all C) len spec
theorem fn__law_all {k : Nat} (Y : Df K mg (top 36) "_law_all") (B : Bi mg) {S__law_all : Spec} {j__law_all : Nat} (F__law_all : Fn P w K mg base j__law_all "_law_all" S__law_all) (h__law_all : j__law_all ≤ k) {S : Spec} (len : ∀ ds Q Ex, S ds Q Ex → ds.length = 1) (spec : ∀ ds Q Ex, S ds Q Ex → t__law_all S__law_all (startD 1 ds) (endsOf Q Ex)) : Fn P w K mg base (k + 1) "_law_all" S := by
  obtain ⟨fd, F, hm⟩ := Y
  exact fn_mk F (ok__law_all F B F__law_all h__law_all len spec) hm (fun _ _ _ _ _ _ us hl => match us, hl with | [_], _ => rfl)
theorem no__law_all {k : Nat} (Y : Df K mg (top 36) "_law_all") : Fn P w K mg base (k + 1) "_law_all" S_no := by
  obtain ⟨fd, F, hm⟩ := Y
  exact fn_no F sc__law_all hm (fun _ _ _ _ _ _ us hl => match us, hl with | [_], _ => rfl)
theorem rec__law_all {k : Nat} (Y : Df K mg (top 36) "_law_all") (B : Bi mg) {S : Nat → Spec} (len : ∀ N ds Q Ex, S N ds Q Ex → ds.length = 1) (p : ∀ (N : Nat) (SR : Spec), (∀ ds P Ex, N ≠ 0 → S (N - 1) ds P Ex → SR ds P Ex) → ∀ ds Q Ex, S N ds Q Ex → t__law_all SR (startD 1 ds) (endsOf Q Ex)) : ∀ N : Nat, Fn P w K mg base (k + 2 + N) "_law_all" (S N)
  | 0 => fn__law_all (k := k + 1) Y B (no__law_all (k := k) Y) (Nat.le_refl _) (len 0) (p 0 _ fun _ _ _ h0 _ => absurd rfl h0)
  | N + 1 => fn__law_all (k := k + 2 + N) Y B (rec__law_all Y B len p N) (Nat.le_refl _) (len (N + 1)) (p (N + 1) _ fun _ _ _ _ h => h)

def t__law_deep (S__law_deep : Spec) : DS := dSeq (dIfS (dTest (dOp fEq (dOp fIx (dVar 0) (dC (.int 0))) (dC (.str "mark")))) (dRet (dC (.int 0))) (dNext)) (dRet (dOp fAdd (dC (.int 1)) (dB fMax2 (dCons (dCall S__law_deep (dCons (dOp fIx (dVar 0) (dC (.int 2))) (dNil))) (dCons (dCall S__law_deep (dCons (dOp fIx (dVar 0) (dC (.int 3))) (dNil))) (dNil))))))
theorem sc__law_deep : FnScope ["_law_program_here"] ["_law_program_here"] (defScope (top 37)) := ⟨rfl, rfl, rfl, by decide +kernel, rfl, by decide +kernel, by decide +kernel⟩
theorem bd__law_deep {k : Nat} {f : Addr} {cdv : Value} {A : Around} {outer : List PySem.Env} {s : Shared} {H : Hp} {E : XK} {g0 : Gh} (B : Bi mg) {S__law_deep : Spec} {j__law_deep : Nat} (F__law_deep : Fn P w K mg base j__law_deep "_law_deep" S__law_deep) (h__law_deep : j__law_deep ≤ k) (C : Cn (cxD P w K mg base ["_law_program_here"] "_law_deep" (defScope (top 37)) f cdv A outer s H E) (wxD E) k) : DPs (cxD P w K mg base ["_law_program_here"] "_law_deep" (defScope (top 37)) f cdv A outer s H E) (wxD E) g0 (defBody (top 37)) (t__law_deep S__law_deep) := by
  exact dp_cons (dp_if (ct_eq C (de_ix (de_var 0) (de_int)) (de_str)) (dp_one (dp_ret (de_int))) (dp_nil)) (dp_one (dp_ret (de_add (de_int) (dc_max2 C B (da_cons (de_call C F__law_deep h__law_deep (da_cons (de_ix (de_var 0) (de_int)) (da_nil))) (da_cons (de_call C F__law_deep h__law_deep (da_cons (de_ix (de_var 0) (de_int)) (da_nil))) (da_nil)))))))
theorem ok__law_deep {k : Nat} {f : Addr} {fd : FuncData} (F : FunD K "_law_deep" "_law_deep" (defArgs (top 37)) (defBody (top 37)) (defScope (top 37)) [] [] f fd) (B : Bi mg) {S__law_deep : Spec} {j__law_deep : Nat} (F__law_deep : Fn P w K mg base j__law_deep "_law_deep" S__law_deep) (h__law_deep : j__law_deep ≤ k) {S : Spec} (len : ∀ ds Q Ex, S ds Q Ex → ds.length = 1) (spec : ∀ ds Q Ex, S ds Q Ex → t__law_deep S__law_deep (startD 1 ds) (endsOf Q Ex)) : FnOk P w K mg base (L2.CX P w) (k + 1) f fd ["_law_program_here"] (spD K S) :=
  fnD F sc__law_deep (fun cdv A outer s H E g0 C => bd__law_deep B F__law_deep h__law_deep C) len spec
theorem fn__law_deep {k : Nat} (Y : Df K mg (top 37) "_law_deep") (B : Bi mg) {S__law_deep : Spec} {j__law_deep : Nat} (F__law_deep : Fn P w K mg base j__law_deep "_law_deep" S__law_deep) (h__law_deep : j__law_deep ≤ k) {S : Spec} (len : ∀ ds Q Ex, S ds Q Ex → ds.length = 1) (spec : ∀ ds Q Ex, S ds Q Ex → t__law_deep S__law_deep (startD 1 ds) (endsOf Q Ex)) : Fn P w K mg base (k + 1) "_law_deep" S := by
  obtain ⟨fd, F, hm⟩ := Y
  exact fn_mk F (ok__law_deep F B F__law_deep h__law_deep len spec) hm (fun _ _ _ _ _ _ us hl => match us, hl with | [_], _ => rfl)
theorem no__law_deep {k : Nat} (Y : Df K mg (top 37) "_law_deep") : Fn P w K mg base (k + 1) "_law_deep" S_no := by
  obtain ⟨fd, F, hm⟩ := Y
  exact fn_no F sc__law_deep hm (fun _ _ _ _ _ _ us hl => match us, hl with | [_], _ => rfl)
theorem rec__law_deep {k : Nat} (Y : Df K mg (top 37) "_law_deep") (B : Bi mg) {S : Nat → Spec} (len : ∀ N ds Q Ex, S N ds Q Ex → ds.length = 1) (p : ∀ (N : Nat) (SR : Spec), (∀ ds P Ex, N ≠ 0 → S (N - 1) ds P Ex → SR ds P Ex) → ∀ ds Q Ex, S N ds Q Ex → t__law_deep SR (startD 1 ds) (endsOf Q Ex)) : ∀ N : Nat, Fn P w K mg base (k + 2 + N) "_law_deep" (S N)
  | 0 => fn__law_deep (k := k + 1) Y B (no__law_deep (k := k) Y) (Nat.le_refl _) (len 0) (p 0 _ fun _ _ _ h0 _ => absurd rfl h0)
  | N + 1 => fn__law_deep (k := k + 2 + N) Y B (rec__law_deep Y B len p N) (Nat.le_refl _) (len (N + 1)) (p (N + 1) _ fun _ _ _ _ h => h)

def t__law_plain (S__law_plain : Spec) : DS := dSeq (dIfS (dTest (dOp fEq (dOp fIx (dVar 0) (dC (.int 0))) (dC (.str "mark")))) (dRet (dVar 0)) (dNext)) (dSeq (dSet 1 (dCall S__law_plain (dCons (dOp fIx (dVar 0) (dC (.int 2))) (dNil)))) (dSeq (dSet 2 (dCall S__law_plain (dCons (dOp fIx (dVar 0) (dC (.int 3))) (dNil)))) (dSeq (dIfS (dAnd (dTest (dOp fEq (dOp fIx (dVar 0) (dC (.int 1))) (dC (.str "back")))) (dTest (dOp fEq (dVar 1) (dVar 2)))) (dRet (dVar 1)) (dNext)) (dRet (dTup (dCons (dC (.str "draw")) (dCons (dOp fIx (dVar 0) (dC (.int 1))) (dCons (dVar 1) (dCons (dVar 2) (dNil))))))))))
theorem sc__law_plain : FnScope ["_law_program_here", "_law_red", "_law_blue"] ["_law_program_here"] (defScope (top 38)) := ⟨rfl, rfl, rfl, by decide +kernel, rfl, by decide +kernel, by decide +kernel⟩
theorem bd__law_plain {k : Nat} {f : Addr} {cdv : Value} {A : Around} {outer : List PySem.Env} {s : Shared} {H : Hp} {E : XK} {g0 : Gh} (B : Bi mg) {S__law_plain : Spec} {j__law_plain : Nat} (F__law_plain : Fn P w K mg base j__law_plain "_law_plain" S__law_plain) (h__law_plain : j__law_plain ≤ k) (C : Cn (cxD P w K mg base ["_law_program_here", "_law_red", "_law_blue"] "_law_plain" (defScope (top 38)) f cdv A outer s H E) (wxD E) k) : DPs (cxD P w K mg base ["_law_program_here", "_law_red", "_law_blue"] "_law_plain" (defScope (top 38)) f cdv A outer s H E) (wxD E) g0 (defBody (top 38)) (t__law_plain S__law_plain) := by
  exact dp_cons (dp_if (ct_eq C (de_ix (de_var 0) (de_int)) (de_str)) (dp_one (dp_ret (de_var 0))) (dp_nil)) (dp_cons (dp_set 1 C.nd (de_call C F__law_plain h__law_plain (da_cons (de_ix (de_var 0) (de_int)) (da_nil)))) (dp_cons (dp_set 2 C.nd (de_call C F__law_plain h__law_plain (da_cons (de_ix (de_var 0) (de_int)) (da_nil)))) (dp_cons (dp_if (dt_w (dw_and (ct_eq C (de_ix (de_var 0) (de_int)) (de_str)) (dw_and1 (ct_eq C (de_var 1) (de_var 2))))) (dp_one (dp_ret (de_var 1))) (dp_nil)) (dp_one (dp_ret (de_tup (da_cons (de_str) (da_cons (de_ix (de_var 0) (de_int)) (da_cons (de_var 1) (da_cons (de_var 2) (da_nil)))))))))))
theorem ok__law_plain {k : Nat} {f : Addr} {fd : FuncData} (F : FunD K "_law_plain" "_law_plain" (defArgs (top 38)) (defBody (top 38)) (defScope (top 38)) [] [] f fd) (B : Bi mg) {S__law_plain : Spec} {j__law_plain : Nat} (F__law_plain : Fn P w K mg base j__law_plain "_law_plain" S__law_plain) (h__law_plain : j__law_plain ≤ k) {S : Spec} (len : ∀ ds Q Ex, S ds Q Ex → ds.length = 1) (spec : ∀ ds Q Ex, S ds Q Ex → t__law_plain S__law_plain (startD 3 ds) (endsOf Q Ex)) : FnOk P w K mg base (L2.CX P w) (k + 1) f fd ["_law_program_here"] (spD K S) :=
  fnD F sc__law_plain (fun cdv A outer s H E g0 C => bd__law_plain B F__law_plain h__law_plain C) len spec
theorem fn__law_plain {k : Nat} (Y : Df K mg (top 38) "_law_plain") (B : Bi mg) {S__law_plain : Spec} {j__law_plain : Nat} (F__law_plain : Fn P w K mg base j__law_plain "_law_plain" S__law_plain) (h__law_plain : j__law_plain ≤ k) {S : Spec} (len : ∀ ds Q Ex, S ds Q Ex → ds.length = 1) (spec : ∀ ds Q Ex, S ds Q Ex → t__law_plain S__law_plain (startD 3 ds) (endsOf Q Ex)) : Fn P w K mg base (k + 1) "_law_plain" S := by
  obtain ⟨fd, F, hm⟩ := Y
  exact fn_mk F (ok__law_plain F B F__law_plain h__law_plain len spec) hm (fun _ _ _ _ _ _ us hl => match us, hl with | [_], _ => rfl)
theorem no__law_plain {k : Nat} (Y : Df K mg (top 38) "_law_plain") : Fn P w K mg base (k + 1) "_law_plain" S_no := by
  obtain ⟨fd, F, hm⟩ := Y
  exact fn_no F sc__law_plain hm (fun _ _ _ _ _ _ us hl => match us, hl with | [_], _ => rfl)
theorem rec__law_plain {k : Nat} (Y : Df K mg (top 38) "_law_plain") (B : Bi mg) {S : Nat → Spec} (len : ∀ N ds Q Ex, S N ds Q Ex → ds.length = 1) (p : ∀ (N : Nat) (SR : Spec), (∀ ds P Ex, N ≠ 0 → S (N - 1) ds P Ex → SR ds P Ex) → ∀ ds Q Ex, S N ds Q Ex → t__law_plain SR (startD 3 ds) (endsOf Q Ex)) : ∀ N : Nat, Fn P w K mg base (k + 2 + N) "_law_plain" (S N)
  | 0 => fn__law_plain (k := k + 1) Y B (no__law_plain (k := k) Y) (Nat.le_refl _) (len 0) (p 0 _ fun _ _ _ h0 _ => absurd rfl h0)
  | N + 1 => fn__law_plain (k := k + 2 + N) Y B (rec__law_plain Y B len p N) (Nat.le_refl _) (len (N + 1)) (p (N + 1) _ fun _ _ _ _ h => h)

def b1_law (S__law_begin : Spec) (S__law_program : Spec) (S__law_draw : Spec) (S_marks : Spec) (S__law_all : Spec) (S_is_program : Spec) (S_need : Spec) (S__law_need : Spec) (S_depth : Spec) (S__law_deep : Spec) (S_plain : Spec) (S__law_plain : Spec) (S__law_refused : Spec) : DS := dSet 4 (dTup (dCons (dC (.str "draw")) (dCons (dC (.str "back")) (dCons (dVar 4) (dCons (dVar 3) (dNil))))))
def b2_law (S__law_begin : Spec) (S__law_program : Spec) (S__law_draw : Spec) (S_marks : Spec) (S__law_all : Spec) (S_is_program : Spec) (S_need : Spec) (S__law_need : Spec) (S_depth : Spec) (S__law_deep : Spec) (S_plain : Spec) (S__law_plain : Spec) (S__law_refused : Spec) : DT := dLst (dCons (dC .non) (dCons (dC (.str "hit")) (dCons (dTup (dCons (dC (.str "mark")) (dNil))) (dCons (dTup (dCons (dC (.str "mark")) (dCons (dC (.str "Hit")) (dNil)))) (dCons (dTup (dCons (dC (.str "mark")) (dCons (dC (.str "")) (dNil)))) (dCons (dTup (dCons (dC (.str "mark")) (dCons (dC (.str "ninesigns")) (dNil)))) (dCons (dTup (dCons (dC (.str "draw")) (dCons (dC (.str "back")) (dCons (dVar 3) (dNil))))) (dCons (dVar 4) (dNil)))))))))
def b3_law (S__law_begin : Spec) (S__law_program : Spec) (S__law_draw : Spec) (S_marks : Spec) (S__law_all : Spec) (S_is_program : Spec) (S_need : Spec) (S__law_need : Spec) (S_depth : Spec) (S__law_deep : Spec) (S_plain : Spec) (S__law_plain : Spec) (S__law_refused : Spec) : DT := dLst (dCons (dTup (dCons (dC (.str "draw")) (dCons (dC (.str "away")) (dCons (dVar 3) (dCons (dVar 3) (dNil)))))) (dCons (dLst (dCons (dC (.str "mark")) (dCons (dC (.str "hit")) (dNil)))) (dCons (dTup (dCons (dC (.str "draw")) (dCons (dC (.str "back")) (dCons (dVar 3) (dCons (dC .non) (dNil)))))) (dNil))))
def b4_law (S__law_begin : Spec) (S__law_program : Spec) (S__law_draw : Spec) (S_marks : Spec) (S__law_all : Spec) (S_is_program : Spec) (S_need : Spec) (S__law_need : Spec) (S_depth : Spec) (S__law_deep : Spec) (S_plain : Spec) (S__law_plain : Spec) (S__law_refused : Spec) : DT := dLst (dCons (dTup (dCons (dC (.str "mark")) (dCons (dC (.str "hit")) (dCons (dC (.int 1)) (dNil))))) (dCons (dTup (dCons (dC (.int 1)) (dCons (dC (.int 2)) (dNil)))) (dCons (dTup (dNil)) (dNil))))
def r10_law (S__law_begin : Spec) (S__law_program : Spec) (S__law_draw : Spec) (S_marks : Spec) (S__law_all : Spec) (S_is_program : Spec) (S_need : Spec) (S__law_need : Spec) (S_depth : Spec) (S__law_deep : Spec) (S_plain : Spec) (S__law_plain : Spec) (S__law_refused : Spec) : DS := dSeq (dSet 7 (dOp fIx (dVar 6) (dCall S__law_draw (dCons (dVar 1) (dCons (dB (on1 fLen) (dCons (dVar 6) (dNil))) (dNil)))))) (dRet (dAndV (dNotV (dCall S_is_program (dCons (dVar 7) (dNil)))) (dCall S__law_refused (dCons (dVar 7) (dCons (dCall S__law_draw (dCons (dVar 1) (dCons (dC (.int 4)) (dNil)))) (dNil))))))
def r9_law (S__law_begin : Spec) (S__law_program : Spec) (S__law_draw : Spec) (S_marks : Spec) (S__law_all : Spec) (S_is_program : Spec) (S_need : Spec) (S__law_need : Spec) (S_depth : Spec) (S__law_deep : Spec) (S_plain : Spec) (S__law_plain : Spec) (S__law_refused : Spec) : DS := dSeq (dSet 6 (dOp fAdd (dVar 6) (b4_law S__law_begin S__law_program S__law_draw S_marks S__law_all S_is_program S_need S__law_need S_depth S__law_deep S_plain S__law_plain S__law_refused))) (r10_law S__law_begin S__law_program S__law_draw S_marks S__law_all S_is_program S_need S__law_need S_depth S__law_deep S_plain S__law_plain S__law_refused)
def r8_law (S__law_begin : Spec) (S__law_program : Spec) (S__law_draw : Spec) (S_marks : Spec) (S__law_all : Spec) (S_is_program : Spec) (S_need : Spec) (S__law_need : Spec) (S_depth : Spec) (S__law_deep : Spec) (S_plain : Spec) (S__law_plain : Spec) (S__law_refused : Spec) : DS := dSeq (dSet 6 (dOp fAdd (dVar 6) (b3_law S__law_begin S__law_program S__law_draw S_marks S__law_all S_is_program S_need S__law_need S_depth S__law_deep S_plain S__law_plain S__law_refused))) (r9_law S__law_begin S__law_program S__law_draw S_marks S__law_all S_is_program S_need S__law_need S_depth S__law_deep S_plain S__law_plain S__law_refused)
def r7_law (S__law_begin : Spec) (S__law_program : Spec) (S__law_draw : Spec) (S_marks : Spec) (S__law_all : Spec) (S_is_program : Spec) (S_need : Spec) (S__law_need : Spec) (S_depth : Spec) (S__law_deep : Spec) (S_plain : Spec) (S__law_plain : Spec) (S__law_refused : Spec) : DS := dSeq (dSet 6 (b2_law S__law_begin S__law_program S__law_draw S_marks S__law_all S_is_program S_need S__law_need S_depth S__law_deep S_plain S__law_plain S__law_refused)) (r8_law S__law_begin S__law_program S__law_draw S_marks S__law_all S_is_program S_need S__law_need S_depth S__law_deep S_plain S__law_plain S__law_refused)
def r6_law (S__law_begin : Spec) (S__law_program : Spec) (S__law_draw : Spec) (S_marks : Spec) (S__law_all : Spec) (S_is_program : Spec) (S_need : Spec) (S__law_need : Spec) (S_depth : Spec) (S__law_deep : Spec) (S_plain : Spec) (S__law_plain : Spec) (S__law_refused : Spec) : DS := dSeq (dFor (iRange1 (dCons (dC (.int 7)) (dNil))) (dgN 5) (b1_law S__law_begin S__law_program S__law_draw S_marks S__law_all S_is_program S_need S__law_need S_depth S__law_deep S_plain S__law_plain S__law_refused)) (r7_law S__law_begin S__law_program S__law_draw S_marks S__law_all S_is_program S_need S__law_need S_depth S__law_deep S_plain S__law_plain S__law_refused)
def r5_law (S__law_begin : Spec) (S__law_program : Spec) (S__law_draw : Spec) (S_marks : Spec) (S__law_all : Spec) (S_is_program : Spec) (S_need : Spec) (S__law_need : Spec) (S_depth : Spec) (S__law_deep : Spec) (S_plain : Spec) (S__law_plain : Spec) (S__law_refused : Spec) : DS := dSeq (dSet 4 (dVar 3)) (r6_law S__law_begin S__law_program S__law_draw S_marks S__law_all S_is_program S_need S__law_need S_depth S__law_deep S_plain S__law_plain S__law_refused)
def r4_law (S__law_begin : Spec) (S__law_program : Spec) (S__law_draw : Spec) (S_marks : Spec) (S__law_all : Spec) (S_is_program : Spec) (S_need : Spec) (S__law_need : Spec) (S_depth : Spec) (S__law_deep : Spec) (S_plain : Spec) (S__law_plain : Spec) (S__law_refused : Spec) : DS := dSeq (dSet 3 (dTup (dCons (dC (.str "mark")) (dCons (dC (.str "hit")) (dNil))))) (r5_law S__law_begin S__law_program S__law_draw S_marks S__law_all S_is_program S_need S__law_need S_depth S__law_deep S_plain S__law_plain S__law_refused)
def r3_law (S__law_begin : Spec) (S__law_program : Spec) (S__law_draw : Spec) (S_marks : Spec) (S__law_all : Spec) (S_is_program : Spec) (S_need : Spec) (S__law_need : Spec) (S_depth : Spec) (S__law_deep : Spec) (S_plain : Spec) (S__law_plain : Spec) (S__law_refused : Spec) : DS := dSeq (dIfS (dTest (dOp fNe (dCall S_plain (dCons (dVar 2) (dNil))) (dCall S__law_plain (dCons (dVar 2) (dNil))))) (dRet (dC (.bl false))) (dNext)) (r4_law S__law_begin S__law_program S__law_draw S_marks S__law_all S_is_program S_need S__law_need S_depth S__law_deep S_plain S__law_plain S__law_refused)
def r2_law (S__law_begin : Spec) (S__law_program : Spec) (S__law_draw : Spec) (S_marks : Spec) (S__law_all : Spec) (S_is_program : Spec) (S_need : Spec) (S__law_need : Spec) (S_depth : Spec) (S__law_deep : Spec) (S_plain : Spec) (S__law_plain : Spec) (S__law_refused : Spec) : DS := dSeq (dIfS (dOr (dTest (dOp fNe (dCall S_depth (dCons (dVar 2) (dNil))) (dCall S__law_deep (dCons (dVar 2) (dNil))))) (dTest (dOp fNe (dCall S_need (dCons (dVar 2) (dNil))) (dCall S__law_need (dCons (dVar 2) (dCons (dC (.int 0)) (dNil))))))) (dRet (dC (.bl false))) (dNext)) (r3_law S__law_begin S__law_program S__law_draw S_marks S__law_all S_is_program S_need S__law_need S_depth S__law_deep S_plain S__law_plain S__law_refused)
def r1_law (S__law_begin : Spec) (S__law_program : Spec) (S__law_draw : Spec) (S_marks : Spec) (S__law_all : Spec) (S_is_program : Spec) (S_need : Spec) (S__law_need : Spec) (S_depth : Spec) (S__law_deep : Spec) (S_plain : Spec) (S__law_plain : Spec) (S__law_refused : Spec) : DS := dSeq (dIfS (dOr (dNot (dTru (dCall S_is_program (dCons (dVar 2) (dNil))))) (dTest (dOp fNe (dCall S_marks (dCons (dVar 2) (dNil))) (dSortSet (dCall S__law_all (dCons (dVar 2) (dNil))))))) (dRet (dC (.bl false))) (dNext)) (r2_law S__law_begin S__law_program S__law_draw S_marks S__law_all S_is_program S_need S__law_need S_depth S__law_deep S_plain S__law_plain S__law_refused)
def t_law (S__law_begin : Spec) (S__law_program : Spec) (S__law_draw : Spec) (S_marks : Spec) (S__law_all : Spec) (S_is_program : Spec) (S_need : Spec) (S__law_need : Spec) (S_depth : Spec) (S__law_deep : Spec) (S_plain : Spec) (S__law_plain : Spec) (S__law_refused : Spec) : DS := dSeq (dSet 1 (dCall S__law_begin (dCons (dVar 0) (dNil)))) (dSeq (dSet 2 (dCall S__law_program (dCons (dVar 1) (dCons (dOp fAdd (dC (.int 1)) (dCall S__law_draw (dCons (dVar 1) (dCons (dC (.int 5)) (dNil))))) (dNil))))) (r1_law S__law_begin S__law_program S__law_draw S_marks S__law_all S_is_program S_need S__law_need S_depth S__law_deep S_plain S__law_plain S__law_refused))
theorem sc_law : FnScope ["_law_script", "_law_draws", "_law_program_here", "_law_end", "_law_deep_here", "_law_k", "_law_odd", "_law_thing"] ["_law_script"] (defScope (top 39)) := ⟨rfl, rfl, rfl, by decide +kernel, rfl, by decide +kernel, by decide +kernel⟩
theorem bd_law {k : Nat} {f : Addr} {cdv : Value} {A : Around} {outer : List PySem.Env} {s : Shared} {H : Hp} {E : XK} {g0 : Gh} (B : Bi mg) {S__law_begin : Spec} {j__law_begin : Nat} (F__law_begin : Fn P w K mg base j__law_begin "_law_begin" S__law_begin) (h__law_begin : j__law_begin ≤ k) {S__law_program : Spec} {j__law_program : Nat} (F__law_program : Fn P w K mg base j__law_program "_law_program" S__law_program) (h__law_program : j__law_program ≤ k) {S__law_draw : Spec} {j__law_draw : Nat} (F__law_draw : Fn P w K mg base j__law_draw "_law_draw" S__law_draw) (h__law_draw : j__law_draw ≤ k) {S_marks : Spec} {j_marks : Nat} (F_marks : Fn P w K mg base j_marks "marks" S_marks) (h_marks : j_marks ≤ k) {S__law_all : Spec} {j__law_all : Nat} (F__law_all : Fn P w K mg base j__law_all "_law_all" S__law_all) (h__law_all : j__law_all ≤ k) {S_is_program : Spec} {j_is_program : Nat} (F_is_program : Fn P w K mg base j_is_program "is_program" S_is_program) (h_is_program : j_is_program ≤ k) {S_need : Spec} {j_need : Nat} (F_need : Fn P w K mg base j_need "need" S_need) (h_need : j_need ≤ k) {S__law_need : Spec} {j__law_need : Nat} (F__law_need : Fn P w K mg base j__law_need "_law_need" S__law_need) (h__law_need : j__law_need ≤ k) {S_depth : Spec} {j_depth : Nat} (F_depth : Fn P w K mg base j_depth "depth" S_depth) (h_depth : j_depth ≤ k) {S__law_deep : Spec} {j__law_deep : Nat} (F__law_deep : Fn P w K mg base j__law_deep "_law_deep" S__law_deep) (h__law_deep : j__law_deep ≤ k) {S_plain : Spec} {j_plain : Nat} (F_plain : Fn P w K mg base j_plain "plain" S_plain) (h_plain : j_plain ≤ k) {S__law_plain : Spec} {j__law_plain : Nat} (F__law_plain : Fn P w K mg base j__law_plain "_law_plain" S__law_plain) (h__law_plain : j__law_plain ≤ k) {S__law_refused : Spec} {j__law_refused : Nat} (F__law_refused : Fn P w K mg base j__law_refused "_law_refused" S__law_refused) (h__law_refused : j__law_refused ≤ k) (C : Cn (cxD P w K mg base ["_law_script", "_law_draws", "_law_program_here", "_law_end", "_law_deep_here", "_law_k", "_law_odd", "_law_thing"] "law" (defScope (top 39)) f cdv A outer s H E) (wxD E) k) : DPs (cxD P w K mg base ["_law_script", "_law_draws", "_law_program_here", "_law_end", "_law_deep_here", "_law_k", "_law_odd", "_law_thing"] "law" (defScope (top 39)) f cdv A outer s H E) (wxD E) g0 (defBody (top 39)) (t_law S__law_begin S__law_program S__law_draw S_marks S__law_all S_is_program S_need S__law_need S_depth S__law_deep S_plain S__law_plain S__law_refused) := by
  exact dp_cons (dp_set 1 C.nd (de_call C F__law_begin h__law_begin (da_cons (de_var 0) (da_nil)))) (dp_cons (dp_set 2 C.nd (de_call C F__law_program h__law_program (da_cons (de_var 1) (da_cons (de_add (de_int) (de_call C F__law_draw h__law_draw (da_cons (de_var 1) (da_cons (de_int) (da_nil))))) (da_nil))))) (dp_cons (dp_if (dt_w (dw_or (dt_not (dt_tru (de_call C F_is_program h_is_program (da_cons (de_var 2) (da_nil))))) (dw_or1 (ct_ne C (de_call C F_marks h_marks (da_cons (de_var 2) (da_nil))) (de_sortSet C B (de_call C F__law_all h__law_all (da_cons (de_var 2) (da_nil)))))))) (dp_one (dp_ret (de_bl))) (dp_nil)) (dp_cons (dp_if (dt_w (dw_or (ct_ne C (de_call C F_depth h_depth (da_cons (de_var 2) (da_nil))) (de_call C F__law_deep h__law_deep (da_cons (de_var 2) (da_nil)))) (dw_or1 (ct_ne C (de_call C F_need h_need (da_cons (de_var 2) (da_nil))) (de_call C F__law_need h__law_need (da_cons (de_var 2) (da_cons (de_int) (da_nil)))))))) (dp_one (dp_ret (de_bl))) (dp_nil)) (dp_cons (dp_if (ct_ne C (de_call C F_plain h_plain (da_cons (de_var 2) (da_nil))) (de_call C F__law_plain h__law_plain (da_cons (de_var 2) (da_nil)))) (dp_one (dp_ret (de_bl))) (dp_nil)) (dp_cons (dp_set 3 C.nd (de_tup (da_cons (de_str) (da_cons (de_str) (da_nil))))) (dp_cons (dp_set 4 C.nd (de_var 3)) (dp_cons (dp_for (sl := [5]) C (di_range1 (B.at_ "range") (da_cons (de_int) (da_nil))) (fun g0 => dg_name 5 C.nd) (fun g0 => dp_one (dp_set 4 C.nd (de_tup (da_cons (de_str) (da_cons (de_str) (da_cons (de_var 4) (da_cons (de_var 3) (da_nil))))))))) (dp_cons (dp_set 6 C.nd (de_lst (da_cons (de_non) (da_cons (de_str) (da_cons (de_tup (da_cons (de_str) (da_nil))) (da_cons (de_tup (da_cons (de_str) (da_cons (de_str) (da_nil)))) (da_cons (de_tup (da_cons (de_str) (da_cons (de_str) (da_nil)))) (da_cons (de_tup (da_cons (de_str) (da_cons (de_str) (da_nil)))) (da_cons (de_tup (da_cons (de_str) (da_cons (de_str) (da_cons (de_var 3) (da_nil))))) (da_cons (de_var 4) (da_nil))))))))))) (dp_cons (dp_set 6 C.nd (de_add (de_var 6) (de_lst (da_cons (de_tup (da_cons (de_str) (da_cons (de_str) (da_cons (de_var 3) (da_cons (de_var 3) (da_nil)))))) (da_cons (de_lst (da_cons (de_str) (da_cons (de_str) (da_nil)))) (da_cons (de_tup (da_cons (de_str) (da_cons (de_str) (da_cons (de_var 3) (da_cons (de_non) (da_nil)))))) (da_nil))))))) (dp_cons (dp_set 6 C.nd (de_add (de_var 6) (de_lst (da_cons (de_tup (da_cons (de_str) (da_cons (de_str) (da_cons (de_int) (da_nil))))) (da_cons (de_tup (da_cons (de_int) (da_cons (de_int) (da_nil)))) (da_cons (de_tup (da_nil)) (da_nil))))))) (dp_cons (dp_set 7 C.nd (de_ix (de_var 6) (de_call C F__law_draw h__law_draw (da_cons (de_var 1) (da_cons (dc_len B (da_cons (de_var 6) (da_nil))) (da_nil)))))) (dp_one (dp_ret (de_and (de_not (de_call C F_is_program h_is_program (da_cons (de_var 7) (da_nil)))) (de_one (de_call C F__law_refused h__law_refused (da_cons (de_var 7) (da_cons (de_call C F__law_draw h__law_draw (da_cons (de_var 1) (da_cons (de_int) (da_nil)))) (da_nil)))))))))))))))))))
theorem ok_law {k : Nat} {f : Addr} {fd : FuncData} (F : FunD K "law" "law" (defArgs (top 39)) (defBody (top 39)) (defScope (top 39)) [] [] f fd) (B : Bi mg) {S__law_begin : Spec} {j__law_begin : Nat} (F__law_begin : Fn P w K mg base j__law_begin "_law_begin" S__law_begin) (h__law_begin : j__law_begin ≤ k) {S__law_program : Spec} {j__law_program : Nat} (F__law_program : Fn P w K mg base j__law_program "_law_program" S__law_program) (h__law_program : j__law_program ≤ k) {S__law_draw : Spec} {j__law_draw : Nat} (F__law_draw : Fn P w K mg base j__law_draw "_law_draw" S__law_draw) (h__law_draw : j__law_draw ≤ k) {S_marks : Spec} {j_marks : Nat} (F_marks : Fn P w K mg base j_marks "marks" S_marks) (h_marks : j_marks ≤ k) {S__law_all : Spec} {j__law_all : Nat} (F__law_all : Fn P w K mg base j__law_all "_law_all" S__law_all) (h__law_all : j__law_all ≤ k) {S_is_program : Spec} {j_is_program : Nat} (F_is_program : Fn P w K mg base j_is_program "is_program" S_is_program) (h_is_program : j_is_program ≤ k) {S_need : Spec} {j_need : Nat} (F_need : Fn P w K mg base j_need "need" S_need) (h_need : j_need ≤ k) {S__law_need : Spec} {j__law_need : Nat} (F__law_need : Fn P w K mg base j__law_need "_law_need" S__law_need) (h__law_need : j__law_need ≤ k) {S_depth : Spec} {j_depth : Nat} (F_depth : Fn P w K mg base j_depth "depth" S_depth) (h_depth : j_depth ≤ k) {S__law_deep : Spec} {j__law_deep : Nat} (F__law_deep : Fn P w K mg base j__law_deep "_law_deep" S__law_deep) (h__law_deep : j__law_deep ≤ k) {S_plain : Spec} {j_plain : Nat} (F_plain : Fn P w K mg base j_plain "plain" S_plain) (h_plain : j_plain ≤ k) {S__law_plain : Spec} {j__law_plain : Nat} (F__law_plain : Fn P w K mg base j__law_plain "_law_plain" S__law_plain) (h__law_plain : j__law_plain ≤ k) {S__law_refused : Spec} {j__law_refused : Nat} (F__law_refused : Fn P w K mg base j__law_refused "_law_refused" S__law_refused) (h__law_refused : j__law_refused ≤ k) {S : Spec} (len : ∀ ds Q Ex, S ds Q Ex → ds.length = 1) (spec : ∀ ds Q Ex, S ds Q Ex → t_law S__law_begin S__law_program S__law_draw S_marks S__law_all S_is_program S_need S__law_need S_depth S__law_deep S_plain S__law_plain S__law_refused (startD 8 ds) (endsOf Q Ex)) : FnOk P w K mg base (L2.CX P w) (k + 1) f fd ["_law_script"] (spD K S) :=
  fnD F sc_law (fun cdv A outer s H E g0 C => bd_law B F__law_begin h__law_begin F__law_program h__law_program F__law_draw h__law_draw F_marks h_marks F__law_all h__law_all F_is_program h_is_program F_need h_need F__law_need h__law_need F_depth h_depth F__law_deep h__law_deep F_plain h_plain F__law_plain h__law_plain F__law_refused h__law_refused C) len spec
theorem fn_law {k : Nat} (Y : Df K mg (top 39) "law") (B : Bi mg) {S__law_begin : Spec} {j__law_begin : Nat} (F__law_begin : Fn P w K mg base j__law_begin "_law_begin" S__law_begin) (h__law_begin : j__law_begin ≤ k) {S__law_program : Spec} {j__law_program : Nat} (F__law_program : Fn P w K mg base j__law_program "_law_program" S__law_program) (h__law_program : j__law_program ≤ k) {S__law_draw : Spec} {j__law_draw : Nat} (F__law_draw : Fn P w K mg base j__law_draw "_law_draw" S__law_draw) (h__law_draw : j__law_draw ≤ k) {S_marks : Spec} {j_marks : Nat} (F_marks : Fn P w K mg base j_marks "marks" S_marks) (h_marks : j_marks ≤ k) {S__law_all : Spec} {j__law_all : Nat} (F__law_all : Fn P w K mg base j__law_all "_law_all" S__law_all) (h__law_all : j__law_all ≤ k) {S_is_program : Spec} {j_is_program : Nat} (F_is_program : Fn P w K mg base j_is_program "is_program" S_is_program) (h_is_program : j_is_program ≤ k) {S_need : Spec} {j_need : Nat} (F_need : Fn P w K mg base j_need "need" S_need) (h_need : j_need ≤ k) {S__law_need : Spec} {j__law_need : Nat} (F__law_need : Fn P w K mg base j__law_need "_law_need" S__law_need) (h__law_need : j__law_need ≤ k) {S_depth : Spec} {j_depth : Nat} (F_depth : Fn P w K mg base j_depth "depth" S_depth) (h_depth : j_depth ≤ k) {S__law_deep : Spec} {j__law_deep : Nat} (F__law_deep : Fn P w K mg base j__law_deep "_law_deep" S__law_deep) (h__law_deep : j__law_deep ≤ k) {S_plain : Spec} {j_plain : Nat} (F_plain : Fn P w K mg base j_plain "plain" S_plain) (h_plain : j_plain ≤ k) {S__law_plain : Spec} {j__law_plain : Nat} (F__law_plain : Fn P w K mg base j__law_plain "_law_plain" S__law_plain) (h__law_plain : j__law_plain ≤ k) {S__law_refused : Spec} {j__law_refused : Nat} (F__law_refused : Fn P w K mg base j__law_refused "_law_refused" S__law_refused) (h__law_refused : j__law_refused ≤ k) {S : Spec} (len : ∀ ds Q Ex, S ds Q Ex → ds.length = 1) (spec : ∀ ds Q Ex, S ds Q Ex → t_law S__law_begin S__law_program S__law_draw S_marks S__law_all S_is_program S_need S__law_need S_depth S__law_deep S_plain S__law_plain S__law_refused (startD 8 ds) (endsOf Q Ex)) : Fn P w K mg base (k + 1) "law" S := by
  obtain ⟨fd, F, hm⟩ := Y
  exact fn_mk F (ok_law F B F__law_begin h__law_begin F__law_program h__law_program F__law_draw h__law_draw F_marks h_marks F__law_all h__law_all F_is_program h_is_program F_need h_need F__law_need h__law_need F_depth h_depth F__law_deep h__law_deep F_plain h_plain F__law_plain h__law_plain F__law_refused h__law_refused len spec) hm (fun _ _ _ _ _ _ us hl => match us, hl with | [_], _ => rfl)

theorem sc__law_begin : FnScope ["_law_script"] ["_law_script"] (defScope (top 22)) := ⟨rfl, rfl, rfl, by decide +kernel, rfl, by decide +kernel, by decide +kernel⟩
theorem bd__law_begin {k : Nat} {f : Addr} {cdv : Value} {A : Around} {outer : List PySem.Env} {s : Shared} {H : Hp} {E : XK} {g0 : Gh} (B : Bi mg) (C : Cn (cxD P w K mg base ["_law_script"] "_law_begin" (defScope (top 22)) f cdv A outer s H E) (wxD E) k) :
    DPs (cxD P w K mg base ["_law_script"] "_law_begin" (defScope (top 22)) f cdv A outer s H E) (wxD E) g0 (defBody (top 22)) dBegin :=
  PSs.imp (pss_one (ps_ret (pe_lst (pa_cons (pe_callTy call_list_of (by rfl) (B.at_ "list") bt_list (pa_cons (pe_var (i := 0) rfl (Or.inl rfl)) pa_nil)) (pa_cons pe_int (pa_cons pe_int (pa_cons pe_int pa_nil))))))) fun E σ H h => begin_sound h
theorem fn__law_begin {k : Nat} (Y : Df K mg (top 22) "_law_begin") (B : Bi mg) : Fn P w K mg base (k + 1) "_law_begin" S__law_begin := by
  obtain ⟨fd, F, hm⟩ := Y
  exact fn_mk F (fnD F sc__law_begin (fun cdv A outer s H E g0 C => bd__law_begin B C) (fun ds Q Ex h => by obtain ⟨ns, rfl, _⟩ := h; rfl) (fun ds Q Ex h => by obtain ⟨ns, rfl, h⟩ := h; exact ⟨ns, rfl, h⟩)) hm (fun _ _ _ _ _ _ us hl => match us, hl with | [_], _ => rfl)
theorem sc__law_draw : FnScope ["_law_draws", "_law_size", "_law_cell", "_law_found"] ["_law_draws", "_law_size"] (defScope (top 23)) := ⟨rfl, rfl, rfl, by decide +kernel, rfl, by decide +kernel, by decide +kernel⟩
section
variable {k : Nat} {f : Addr} {cdv : Value} {A : Around} {outer : List PySem.Env} {s : Shared} {H : Hp} {E : XK} {g0 : Gh}
abbrev cxDraw (P : Program) (w : World) (K : PySem.W.Frag) (mg : Str → Option Value) (base : Heap) (f : Addr) (cdv : Value) (A : Around) (outer : List PySem.Env) (s : Shared) (H : Hp) (E : XK) : Cx :=
  cxD P w K mg base ["_law_draws", "_law_size", "_law_cell", "_law_found"] "_law_draw" (defScope (top 23)) f cdv A outer s H E
theorem dr_at {k : Int} {j : Nat} {p1 p2 p3 : Pos} : PE (cxDraw P w K mg base f cdv A outer s H E) (.Subscript (.Name "_law_draws" p1) (.Constant (.int k) j p2) p3) (tAt (cxDraw P w K mg base f cdv A outer s H E) k) :=
  pe_ix ix_seq (pe_var (i := 0) rfl (Or.inl rfl)) pe_int (fun _ _ => rfl)
theorem bd__law_draw (B : Bi mg) (C : Cn (cxDraw P w K mg base f cdv A outer s H E) (wxD E) k) : DPs (cxDraw P w K mg base f cdv A outer s H E) (wxD E) g0 (defBody (top 23)) dDraw := by
  refine PSs.imp (t := tDraw (cxDraw P w K mg base f cdv A outer s H E)) ?_ fun E σ H h => draw_sound h
  exact pss_cons (ps_if (pt_cmpR op_eq dr_at pe_int (nomark _))
      (pss_one (ps_if (pt_cmpR op_lt dr_at (pe_callB call_len_seq (by rfl) (B.at_ "len") bt_len (pa_cons dr_at pa_nil)) (nomark _))
        (pss_cons (ps_set (i := 2) C.nd rfl (Or.inl rfl) (pe_ix ix_seq dr_at dr_at (fun _ _ => rfl)))
          (pss_cons (ps_asg (pe_op op_add dr_at pe_int) (pg_sub (pe_var (i := 0) rfl (Or.inl rfl)) pe_int set_list))
            (pss_one (ps_if (pt_cmpR op_ge (pe_var (i := 2) rfl (Or.inl rfl)) (pe_op op_pow pe_int pe_int) (nomark _))
              (pss_one (ps_asg (pe_var (i := 2) rfl (Or.inl rfl)) (pg_sub (pe_var (i := 0) rfl (Or.inl rfl)) pe_int set_list)))
              (pss_one (ps_asg (pe_op op_mod (pe_callTy call_int1 (by rfl) (B.at_ "int") bt_int (pa_cons (pe_op op_add (pe_op op_add (pe_op opr_mul dr_at pe_int) (pe_op opr_mul (pe_var (i := 2) rfl (Or.inl rfl)) pe_int)) pe_int) pa_nil)) pe_int)
                (pg_sub (pe_var (i := 0) rfl (Or.inl rfl)) pe_int set_list)))))))
        (pss_one (ps_asg (pe_op op_mod (pe_callTy call_int1 (by rfl) (B.at_ "int") bt_int (pa_cons (pe_op op_add (pe_op opr_mul dr_at pe_int) pe_int) pa_nil)) pe_int) (pg_sub (pe_var (i := 0) rfl (Or.inl rfl)) pe_int set_list)))))
      pss_nil)
    (pss_cons (ps_if (pt_cmpR op_gt dr_at pe_int (nomark _))
        (pss_cons (ps_set (i := 3) C.nd rfl (Or.inl rfl) (pe_op op_mod (pe_callTy call_int1 (by rfl) (B.at_ "int") bt_int (pa_cons dr_at pa_nil)) (pe_var (i := 1) rfl (Or.inl rfl))))
          (pss_cons (ps_asg (pe_op op_fdiv dr_at (pe_var (i := 1) rfl (Or.inl rfl))) (pg_sub (pe_var (i := 0) rfl (Or.inl rfl)) pe_int set_list)) (pss_one (ps_ret (pe_var (i := 3) rfl (Or.inl rfl))))))
        pss_nil)
      (pss_one (ps_ret (pe_op op_mod (pe_op op_mod (pe_callTy call_int1 (by rfl) (B.at_ "int") bt_int (pa_cons (pe_op opr_mul dr_at pe_int) pa_nil)) pe_int) (pe_var (i := 1) rfl (Or.inl rfl))))))
theorem fn__law_draw (Y : Df K mg (top 23) "_law_draw") (B : Bi mg) : Fn P w K mg base (k + 1) "_law_draw" S__law_draw := by
  obtain ⟨fd, F, hm⟩ := Y
  exact fn_mk F (fnD F sc__law_draw (fun cdv A outer s H E g0 C => bd__law_draw B C) (fun ds Q Ex h => by obtain ⟨n, rfl, _⟩ := h; rfl) (fun ds Q Ex h => by obtain ⟨n, rfl, h1, h2, h⟩ := h; exact ⟨n, rfl, h1, h2, h⟩)) hm (fun _ _ _ _ _ _ us hl => match us, hl with | [_, _], _ => rfl)
end

end
end AU

namespace AU
open PySem L2 PySem.Spec PyProof.Rows
def d0 : He.DefD := ⟨("is_word", none), "is_word", "is_word", defArgs (top 8), defBody (top 8), defScope (top 8), [], []⟩
def d1 : He.DefD := ⟨("is_within", none), "is_within", "is_within", defArgs (top 9), defBody (top 9), defScope (top 9), [], []⟩
def d2 : He.DefD := ⟨("is_program", none), "is_program", "is_program", defArgs (top 10), defBody (top 10), defScope (top 10), [], []⟩
def d3 : He.DefD := ⟨("check_program", none), "check_program", "check_program", defArgs (top 11), defBody (top 11), defScope (top 11), [], []⟩
def d4 : He.DefD := ⟨("all_marks", none), "all_marks", "all_marks", defArgs (top 12), defBody (top 12), defScope (top 12), [], []⟩
def d5 : He.DefD := ⟨("marks", none), "marks", "marks", defArgs (top 13), defBody (top 13), defScope (top 13), [], []⟩
def d6 : He.DefD := ⟨("deepest", none), "deepest", "deepest", defArgs (top 14), defBody (top 14), defScope (top 14), [], []⟩
def d7 : He.DefD := ⟨("depth", none), "depth", "depth", defArgs (top 15), defBody (top 15), defScope (top 15), [], []⟩
def d8 : He.DefD := ⟨("turned", none), "turned", "turned", defArgs (top 16), defBody (top 16), defScope (top 16), [], []⟩
def d9 : He.DefD := ⟨("needed", none), "needed", "needed", defArgs (top 17), defBody (top 17), defScope (top 17), [], []⟩
def d10 : He.DefD := ⟨("need", none), "need", "need", defArgs (top 18), defBody (top 18), defScope (top 18), [], []⟩
def d11 : He.DefD := ⟨("made_plain", none), "made_plain", "made_plain", defArgs (top 19), defBody (top 19), defScope (top 19), [], []⟩
def d12 : He.DefD := ⟨("plain", none), "plain", "plain", defArgs (top 20), defBody (top 20), defScope (top 20), [], []⟩
def d13 : He.DefD := ⟨("_law_begin", none), "_law_begin", "_law_begin", defArgs (top 22), defBody (top 22), defScope (top 22), [], []⟩
def d14 : He.DefD := ⟨("_law_draw", none), "_law_draw", "_law_draw", defArgs (top 23), defBody (top 23), defScope (top 23), [], []⟩
def d15 : He.DefD := ⟨("_law_ways", none), "_law_ways", "_law_ways", defArgs (top 24), defBody (top 24), defScope (top 24), [], []⟩
def d16 : He.DefD := ⟨("_law_program", none), "_law_program", "_law_program", defArgs (top 25), defBody (top 25), defScope (top 25), [], []⟩
def d17 : He.DefD := ⟨("_law_need", none), "_law_need", "_law_need", defArgs (top 28), defBody (top 28), defScope (top 28), [], []⟩
def d18 : He.DefD := ⟨("_law_refused", none), "_law_refused", "_law_refused", defArgs (top 35), defBody (top 35), defScope (top 35), [], []⟩
def d19 : He.DefD := ⟨("_law_all", none), "_law_all", "_law_all", defArgs (top 36), defBody (top 36), defScope (top 36), [], []⟩
def d20 : He.DefD := ⟨("_law_deep", none), "_law_deep", "_law_deep", defArgs (top 37), defBody (top 37), defScope (top 37), [], []⟩
def d21 : He.DefD := ⟨("_law_plain", none), "_law_plain", "_law_plain", defArgs (top 38), defBody (top 38), defScope (top 38), [], []⟩
def d22 : He.DefD := ⟨("law", none), "law", "law", defArgs (top 39), defBody (top 39), defScope (top 39), [], []⟩
def fnL : List He.DefD := [d0, d1, d2, d3, d4, d5, d6, d7, d8, d9, d10, d11, d12, d13, d14, d15, d16, d17, d18, d19, d20, d21, d22]
def mt_BadProgram (c : Str) : Option Bool := if c = "UrnError" then some false else if c = "BadProgram" then some true else none
def faL : List He.Fa := [.glo "is_word", .glo "is_within", .glo "is_program", .glo "check_program", .glo "all_marks", .glo "marks", .glo "deepest", .glo "depth", .glo "turned", .glo "needed", .glo "need", .glo "made_plain", .glo "plain", .glo "_law_begin", .glo "_law_draw", .glo "_law_ways", .glo "_law_program", .glo "_law_need", .glo "_law_refused", .glo "_law_all", .glo "_law_deep", .glo "_law_plain", .glo "law", .glo "WAYS", .glo "COLOURS", .int "MOST_DRAWS" 6, .str "SMALL" "abcdefghijklmnopqrstuvwxyz", .glo "UrnError", .exc "UrnError", .glo "BadProgram", .exc "BadProgram", .exm "UrnError" "BadProgram" false, .exm "BadProgram" "BadProgram" true]
def exL (K : PySem.W.Frag) : Bool := (He.tupB K "WAYS" ((["back", "aside", "more", "other"] : List Str).map He.Dv.str)) && (He.tupB K "COLOURS" ((["red", "blue"] : List Str).map He.Dv.str)) && (biN.all fun x => (He.Fa.free x).ok K)
def loose : List Str := (["UrnError", "BadProgram", "WAYS", "COLOURS", "MOST_DRAWS", "SMALL", "is_word", "is_within", "is_program", "check_program", "all_marks", "marks", "deepest", "depth", "turned", "needed", "need", "made_plain", "plain", "_law_begin", "_law_draw", "_law_ways", "_law_program", "_law_tree", "_law_behind", "_law_need", "_law_common", "_law_low", "_law_walk", "_law_sum"] : List Str) ++ (["_law_marks", "_law_urn", "_law_refused", "_law_all", "_law_deep", "_law_plain"] : List Str)
abbrev RL : PySem.W.OpenRow := PySem.W.OpenLaw.row PySem.Challenge.rw_anyurn_k02_programs_looked_at
abbrev hkL : PySem.W.Hook := hookE 4 faL fnL exL
def obL (s : PySem.W.SharedT) : AlE := obsEG 4 faL fnL exL (HandSHeadRun.getT s)
theorem obL_eq (s : PySem.W.SharedT) : obL s = hkL.obs s.abs := obsEG_eq (HandSHeadRun.getT_eq s)
theorem runL (w : World) : HandSHeadRun.RunEq RL (PySem.W.view RL.prog [39]) hkL obL 20000 loose w := by
  intro os
  kernel_rfl
structure Kit (K : PySem.W.Frag) (mg : Str → Option Value) : Prop where
  bi : Bi mg
  y_is_word : Df K mg (top 8) "is_word"
  y_is_within : Df K mg (top 9) "is_within"
  y_is_program : Df K mg (top 10) "is_program"
  y_check_program : Df K mg (top 11) "check_program"
  y_all_marks : Df K mg (top 12) "all_marks"
  y_marks : Df K mg (top 13) "marks"
  y_deepest : Df K mg (top 14) "deepest"
  y_depth : Df K mg (top 15) "depth"
  y_turned : Df K mg (top 16) "turned"
  y_needed : Df K mg (top 17) "needed"
  y_need : Df K mg (top 18) "need"
  y_made_plain : Df K mg (top 19) "made_plain"
  y_plain : Df K mg (top 20) "plain"
  y__law_begin : Df K mg (top 22) "_law_begin"
  y__law_draw : Df K mg (top 23) "_law_draw"
  y__law_ways : Df K mg (top 24) "_law_ways"
  y__law_program : Df K mg (top 25) "_law_program"
  y__law_need : Df K mg (top 28) "_law_need"
  y__law_refused : Df K mg (top 35) "_law_refused"
  y__law_all : Df K mg (top 36) "_law_all"
  y__law_deep : Df K mg (top 37) "_law_deep"
  y__law_plain : Df K mg (top 38) "_law_plain"
  y_law : Df K mg (top 39) "law"
  c_WAYS : Cs K mg "WAYS" (.tup [(.str "back"), (.str "aside"), (.str "more"), (.str "other")])
  c_COLOURS : Cs K mg "COLOURS" (.tup [(.str "red"), (.str "blue")])
  c_MOST_DRAWS : Cs K mg "MOST_DRAWS" (.int 6)
  c_SMALL : Cs K mg "SMALL" (.str "abcdefghijklmnopqrstuvwxyz")
  x_UrnError : XCls K mg "UrnError"
  x_BadProgram : XCls K mg "BadProgram"
  e_BadProgram : Em K "BadProgram" mt_BadProgram
theorem kit_all_of {K : PySem.W.Frag} {h : Heap} {mg : Str → Option Value} (X : K.In h) (G : h.Ns mainGlobals mg) (c : SaysE faL fnL exL K) : Kit K mg := by
  obtain ⟨c, e⟩ := c
  have e := e
  unfold exL at e
  simp only [Bool.and_eq_true] at e
  refine ⟨bi_of X G e.2, ?_, ?_, ?_, ?_, ?_, ?_, ?_, ?_, ?_, ?_, ?_, ?_, ?_, ?_, ?_, ?_, ?_, ?_, ?_, ?_, ?_, ?_, ?_, ?_, ?_, ?_, ?_, ?_, ?_, ?_⟩
  · obtain ⟨fd, F⟩ := c.def_ 0 (d := d0) rfl
    exact ⟨fd, F, He.glo_ok X G (c.fact 0 (f := .glo "is_word") rfl)⟩
  · obtain ⟨fd, F⟩ := c.def_ 1 (d := d1) rfl
    exact ⟨fd, F, He.glo_ok X G (c.fact 1 (f := .glo "is_within") rfl)⟩
  · obtain ⟨fd, F⟩ := c.def_ 2 (d := d2) rfl
    exact ⟨fd, F, He.glo_ok X G (c.fact 2 (f := .glo "is_program") rfl)⟩
  · obtain ⟨fd, F⟩ := c.def_ 3 (d := d3) rfl
    exact ⟨fd, F, He.glo_ok X G (c.fact 3 (f := .glo "check_program") rfl)⟩
  · obtain ⟨fd, F⟩ := c.def_ 4 (d := d4) rfl
    exact ⟨fd, F, He.glo_ok X G (c.fact 4 (f := .glo "all_marks") rfl)⟩
  · obtain ⟨fd, F⟩ := c.def_ 5 (d := d5) rfl
    exact ⟨fd, F, He.glo_ok X G (c.fact 5 (f := .glo "marks") rfl)⟩
  · obtain ⟨fd, F⟩ := c.def_ 6 (d := d6) rfl
    exact ⟨fd, F, He.glo_ok X G (c.fact 6 (f := .glo "deepest") rfl)⟩
  · obtain ⟨fd, F⟩ := c.def_ 7 (d := d7) rfl
    exact ⟨fd, F, He.glo_ok X G (c.fact 7 (f := .glo "depth") rfl)⟩
  · obtain ⟨fd, F⟩ := c.def_ 8 (d := d8) rfl
    exact ⟨fd, F, He.glo_ok X G (c.fact 8 (f := .glo "turned") rfl)⟩
  · obtain ⟨fd, F⟩ := c.def_ 9 (d := d9) rfl
    exact ⟨fd, F, He.glo_ok X G (c.fact 9 (f := .glo "needed") rfl)⟩
  · obtain ⟨fd, F⟩ := c.def_ 10 (d := d10) rfl
    exact ⟨fd, F, He.glo_ok X G (c.fact 10 (f := .glo "need") rfl)⟩
  · obtain ⟨fd, F⟩ := c.def_ 11 (d := d11) rfl
    exact ⟨fd, F, He.glo_ok X G (c.fact 11 (f := .glo "made_plain") rfl)⟩
  · obtain ⟨fd, F⟩ := c.def_ 12 (d := d12) rfl
    exact ⟨fd, F, He.glo_ok X G (c.fact 12 (f := .glo "plain") rfl)⟩
  · obtain ⟨fd, F⟩ := c.def_ 13 (d := d13) rfl
    exact ⟨fd, F, He.glo_ok X G (c.fact 13 (f := .glo "_law_begin") rfl)⟩
  · obtain ⟨fd, F⟩ := c.def_ 14 (d := d14) rfl
    exact ⟨fd, F, He.glo_ok X G (c.fact 14 (f := .glo "_law_draw") rfl)⟩
  · obtain ⟨fd, F⟩ := c.def_ 15 (d := d15) rfl
    exact ⟨fd, F, He.glo_ok X G (c.fact 15 (f := .glo "_law_ways") rfl)⟩
  · obtain ⟨fd, F⟩ := c.def_ 16 (d := d16) rfl
    exact ⟨fd, F, He.glo_ok X G (c.fact 16 (f := .glo "_law_program") rfl)⟩
  · obtain ⟨fd, F⟩ := c.def_ 17 (d := d17) rfl
    exact ⟨fd, F, He.glo_ok X G (c.fact 17 (f := .glo "_law_need") rfl)⟩
  · obtain ⟨fd, F⟩ := c.def_ 18 (d := d18) rfl
    exact ⟨fd, F, He.glo_ok X G (c.fact 18 (f := .glo "_law_refused") rfl)⟩
  · obtain ⟨fd, F⟩ := c.def_ 19 (d := d19) rfl
    exact ⟨fd, F, He.glo_ok X G (c.fact 19 (f := .glo "_law_all") rfl)⟩
  · obtain ⟨fd, F⟩ := c.def_ 20 (d := d20) rfl
    exact ⟨fd, F, He.glo_ok X G (c.fact 20 (f := .glo "_law_deep") rfl)⟩
  · obtain ⟨fd, F⟩ := c.def_ 21 (d := d21) rfl
    exact ⟨fd, F, He.glo_ok X G (c.fact 21 (f := .glo "_law_plain") rfl)⟩
  · obtain ⟨fd, F⟩ := c.def_ 22 (d := d22) rfl
    exact ⟨fd, F, He.glo_ok X G (c.fact 22 (f := .glo "law") rfl)⟩
  · exact cs_tup (zs := ["back", "aside", "more", "other"]) X G (c.fact 23 (f := .glo "WAYS") rfl) e.1.1
  · exact cs_tup (zs := ["red", "blue"]) X G (c.fact 24 (f := .glo "COLOURS") rfl) e.1.2
  · exact cs_int X G (c.fact 25 (f := .int "MOST_DRAWS" 6) rfl)
  · exact cs_str X G (c.fact 26 (f := .str "SMALL" "abcdefghijklmnopqrstuvwxyz") rfl)
  · exact xcls X G (c.fact 27 (f := .glo "UrnError") rfl) (c.fact 28 (f := .exc "UrnError") rfl)
  · exact xcls X G (c.fact 29 (f := .glo "BadProgram") rfl) (c.fact 30 (f := .exc "BadProgram") rfl)
  · intro z b hcb
    unfold mt_BadProgram at hcb
    split at hcb
    · rename_i e; cases hcb; subst e; exact He.exm_ok (c.fact 31 (f := .exm "UrnError" "BadProgram" false) rfl)
    split at hcb
    · rename_i e; cases hcb; subst e; exact He.exm_ok (c.fact 32 (f := .exm "BadProgram" "BadProgram" true) rfl)
    cases hcb
end AU

namespace AU
open PySem L2 PySem.Spec PyProof.Rows
/-! k02: programs looked at -/
theorem Pg.ok_len {n : Nat} {p : Pg} (h : p.ok n = true) (hn : n ≤ 6) : p.marks.length ≤ 64 := by
  have h1 := Pg.marks_len h
  have : 2 ^ n ≤ 2 ^ 6 := Nat.pow_le_pow_right (by decide) hn
  omega
def S_all_marks (N : Nat) : Spec := fun ds P _ => ∃ (p : Pg) (n : Nat), ds = [p.d] ∧ n ≤ N ∧ n ≤ 6 ∧ p.ok n = true ∧ P (.lst (p.marks.map D.str))
theorem p_all_marks (N : Nat) (SR : Spec) (hr : ∀ ds P Ex, N ≠ 0 → S_all_marks (N - 1) ds P Ex → SR ds P Ex) : ∀ ds Q Ex, S_all_marks N ds Q Ex → t_all_marks SR (startD 1 ds) (endsOf Q Ex) := by
  rintro _ Q Ex ⟨p, n, rfl, hn, h6, hp, h⟩
  cases p with
  | mark w =>
    simp [t_all_marks, Pg.d]
    exact h
  | draw w a b =>
    obtain ⟨m, rfl, hw, ha, hb⟩ := Pg.ok_draw hp
    have l1 := Pg.ok_len ha (by omega)
    have l2 := Pg.ok_len hb (by omega)
    simp [t_all_marks, Pg.d]
    refine hr _ _ _ (by omega) ⟨a, m, rfl, by omega, by omega, ha, ?_⟩
    refine hr _ _ _ (by omega) ⟨b, m, rfl, by omega, by omega, hb, ?_⟩
    simp
    refine ⟨by omega, ?_⟩
    rw [← List.map_append]
    exact h
theorem p__law_all (N : Nat) (SR : Spec) (hr : ∀ ds P Ex, N ≠ 0 → S_all_marks (N - 1) ds P Ex → SR ds P Ex) : ∀ ds Q Ex, S_all_marks N ds Q Ex → t__law_all SR (startD 1 ds) (endsOf Q Ex) := fun ds Q Ex h => p_all_marks N SR hr ds Q Ex h
def Pg.deep : Pg → Int
  | .mark _ => 0
  | .draw _ a b => 1 + max a.deep b.deep
def S_deepest (N : Nat) : Spec := fun ds P _ => ∃ (p : Pg) (n : Nat), ds = [p.d] ∧ n ≤ N ∧ p.ok n = true ∧ P (.int p.deep)
theorem p_deepest (N : Nat) (SR : Spec) (hr : ∀ ds P Ex, N ≠ 0 → S_deepest (N - 1) ds P Ex → SR ds P Ex) : ∀ ds Q Ex, S_deepest N ds Q Ex → t_deepest SR (startD 1 ds) (endsOf Q Ex) := by
  rintro _ Q Ex ⟨p, n, rfl, hn, hp, h⟩
  cases p with
  | mark w =>
    simp [t_deepest, Pg.d]
    exact h
  | draw w a b =>
    obtain ⟨m, rfl, hw, ha, hb⟩ := Pg.ok_draw hp
    simp [t_deepest, Pg.d]
    refine hr _ _ _ (by omega) ⟨a, m, rfl, by omega, ha, ?_⟩
    refine hr _ _ _ (by omega) ⟨b, m, rfl, by omega, hb, ?_⟩
    simp
    exact h
theorem p__law_deep (N : Nat) (SR : Spec) (hr : ∀ ds P Ex, N ≠ 0 → S_deepest (N - 1) ds P Ex → SR ds P Ex) : ∀ ds Q Ex, S_deepest N ds Q Ex → t__law_deep SR (startD 1 ds) (endsOf Q Ex) := by
  rintro _ Q Ex ⟨p, n, rfl, hn, hp, h⟩
  cases p with
  | mark w =>
    simp [t__law_deep, Pg.d]
    exact h
  | draw w a b =>
    obtain ⟨m, rfl, hw, ha, hb⟩ := Pg.ok_draw hp
    simp [t__law_deep, Pg.d]
    refine hr _ _ _ (by omega) ⟨a, m, rfl, by omega, ha, ?_⟩
    refine hr _ _ _ (by omega) ⟨b, m, rfl, by omega, hb, ?_⟩
    simp
    exact h
/-! == of programs -/
theorem lit_ok : PyData.strOk ("mark" : Str) = true ∧ PyData.strOk ("draw" : Str) = true ∧ PyData.strOk ("back" : Str) = true ∧ PyData.strOk ("aside" : Str) = true ∧ PyData.strOk ("more" : Str) = true ∧ PyData.strOk ("other" : Str) = true := by decide +kernel
theorem way_strOk {w : Str} (h : wayB w = true) : PyData.strOk w = true := by
  obtain ⟨_, _, a, b, c, d⟩ := lit_ok
  rcases way_cases h with rfl | rfl | rfl | rfl <;> assumption
theorem Pg.lay_ok : ∀ {n : Nat} {p : Pg}, p.ok n = true → lay p.d = true ∧ dep p.d ≤ n + 1
  | n, .mark w, h => by
    have h1 := word_strOk (Pg.ok_mark h)
    refine ⟨?_, ?_⟩
    · show (PyData.strOk ("mark" : Str) && (PyData.strOk w && true)) = true
      rw [lit_ok.1, h1]; rfl
    · show max 0 (max 0 0) + 1 ≤ n + 1
      omega
  | 0, .draw w a b, h => by cases h
  | n + 1, .draw w a b, h => by
    obtain ⟨m, e, hw, ha, hb⟩ := Pg.ok_draw h
    have e : m = n := by omega
    subst e
    obtain ⟨a1, a2⟩ := Pg.lay_ok ha
    obtain ⟨b1, b2⟩ := Pg.lay_ok hb
    refine ⟨?_, ?_⟩
    · show (PyData.strOk ("draw" : Str) && (PyData.strOk w && (lay a.d && (lay b.d && true)))) = true
      rw [lit_ok.2.1, way_strOk hw, a1, b1]; rfl
    · show max 0 (max 0 (max (dep a.d) (max (dep b.d) 0))) + 1 ≤ m + 1 + 1
      omega
theorem Pg.eqOk {n : Nat} {p : Pg} (h : p.ok n = true) (hn : n ≤ 6) : AU.eqOk p.d := ⟨(Pg.lay_ok h).1, by have := (Pg.lay_ok h).2; omega⟩
theorem Pg.deq_self : ∀ p : Pg, deq p.d p.d = true
  | .mark w => by
    show ((("mark" : Str) == "mark") && ((w == w) && true)) = true
    simp
  | .draw w a b => by
    show ((("draw" : Str) == "draw") && ((w == w) && (deq a.d a.d && (deq b.d b.d && true)))) = true
    rw [Pg.deq_self a, Pg.deq_self b]
    simp
def Pg.plain : Pg → Pg
  | .mark w => .mark w
  | .draw w a b => if (decide (w = "back") && deq a.plain.d b.plain.d) = true then a.plain else .draw w a.plain b.plain
theorem Pg.plain_ok : ∀ {n : Nat} {p : Pg}, p.ok n = true → p.plain.ok n = true
  | n, .mark w, h => h
  | 0, .draw w a b, h => by cases h
  | n + 1, .draw w a b, h => by
    obtain ⟨m, e, hw, ha, hb⟩ := Pg.ok_draw h
    have e : m = n := by omega
    subst e
    have a1 := Pg.plain_ok ha
    have b1 := Pg.plain_ok hb
    unfold Pg.plain
    split
    · exact Pg.okm (Nat.le_succ _) a1
    · show (wayB w && (a.plain.ok m && b.plain.ok m)) = true
      rw [hw, a1, b1]; rfl
def S_made_plain (N : Nat) : Spec := fun ds P _ => ∃ (p : Pg) (n : Nat), ds = [p.d] ∧ n ≤ N ∧ n ≤ 6 ∧ p.ok n = true ∧ P p.plain.d
theorem p_made_plain (N : Nat) (SR : Spec) (hr : ∀ ds P Ex, N ≠ 0 → S_made_plain (N - 1) ds P Ex → SR ds P Ex) : ∀ ds Q Ex, S_made_plain N ds Q Ex → t_made_plain SR (startD 3 ds) (endsOf Q Ex) := by
  rintro _ Q Ex ⟨p, n, rfl, hn, h6, hp, h⟩
  cases p with
  | mark w =>
    simp [t_made_plain, Pg.d]
    exact h
  | draw w a b =>
    obtain ⟨m, rfl, hw, ha, hb⟩ := Pg.ok_draw hp
    simp [t_made_plain, Pg.d]
    refine hr _ _ _ (by omega) ⟨a, m, rfl, by omega, by omega, ha, ?_⟩
    refine hr _ _ _ (by omega) ⟨b, m, rfl, by omega, by omega, hb, ?_⟩
    simp
    unfold Pg.plain at h
    by_cases hb' : w = "back"
    · rw [if_pos hb']
      rw [decide_eq_true hb', Bool.true_and] at h
      have e1 := Pg.eqOk (Pg.plain_ok ha) (by omega)
      have e2 := Pg.eqOk (Pg.plain_ok hb) (by omega)
      have h' : if deq a.plain.d b.plain.d = true then Q a.plain.d else Q (.tup [.str "draw", .str w, a.plain.d, b.plain.d]) := by
        split
        · rename_i z
          rw [if_pos z] at h
          exact h
        · rename_i z
          rw [if_neg z] at h
          exact h
      obtain ⟨x, ex⟩ : ∃ x, a.plain.d = .tup x := by cases a.plain <;> exact ⟨_, rfl⟩
      obtain ⟨y, ey⟩ : ∃ y, b.plain.d = .tup y := by cases b.plain <;> exact ⟨_, rfl⟩
      rw [ex] at e1
      rw [ey] at e2
      rw [ex, ey] at h' ⊢
      exact ⟨e1, e2, h'⟩
    · rw [if_neg hb']
      rw [decide_eq_false hb', Bool.false_and, if_neg Bool.false_ne_true] at h
      exact h
theorem p__law_plain (N : Nat) (SR : Spec) (hr : ∀ ds P Ex, N ≠ 0 → S_made_plain (N - 1) ds P Ex → SR ds P Ex) : ∀ ds Q Ex, S_made_plain N ds Q Ex → t__law_plain SR (startD 3 ds) (endsOf Q Ex) := by
  rintro _ Q Ex ⟨p, n, rfl, hn, h6, hp, h⟩
  cases p with
  | mark w =>
    simp [t__law_plain, Pg.d]
    exact h
  | draw w a b =>
    obtain ⟨m, rfl, hw, ha, hb⟩ := Pg.ok_draw hp
    simp [t__law_plain, Pg.d]
    refine hr _ _ _ (by omega) ⟨a, m, rfl, by omega, by omega, ha, ?_⟩
    simp
    refine hr _ _ _ (by omega) ⟨b, m, rfl, by omega, by omega, hb, ?_⟩
    simp
    unfold Pg.plain at h
    by_cases hb' : w = "back"
    · rw [if_pos hb']
      rw [decide_eq_true hb', Bool.true_and] at h
      have e1 := Pg.eqOk (Pg.plain_ok ha) (by omega)
      have e2 := Pg.eqOk (Pg.plain_ok hb) (by omega)
      have h' : if deq a.plain.d b.plain.d = true then Q a.plain.d else Q (.tup [.str "draw", .str w, a.plain.d, b.plain.d]) := by
        split
        · rename_i z
          rw [if_pos z] at h
          exact h
        · rename_i z
          rw [if_neg z] at h
          exact h
      obtain ⟨x, ex⟩ : ∃ x, a.plain.d = .tup x := by cases a.plain <;> exact ⟨_, rfl⟩
      obtain ⟨y, ey⟩ : ∃ y, b.plain.d = .tup y := by cases b.plain <;> exact ⟨_, rfl⟩
      rw [ex] at e1
      rw [ey] at e2
      rw [ex, ey] at h' ⊢
      exact ⟨e1, e2, h'⟩
    · rw [if_neg hb']
      rw [decide_eq_false hb', Bool.false_and, if_neg Bool.false_ne_true] at h
      exact h
/-! what is asked of a thing: a program, or BadProgram -/
def Chk (d : D) (Q : Pg → Prop) (Ex : Str → Prop) : Prop := Kn 7 d ∧ if withinD 6 d = true then ∃ p : Pg, d = p.d ∧ p.ok 6 = true ∧ Q p else Ex "BadProgram"
theorem Chk.ok {p : Pg} {Q : Pg → Prop} {Ex : Str → Prop} (h : p.ok 6 = true) (hQ : Q p) : Chk p.d Q Ex := ⟨Pg.kn 7 (Pg.ok_fit h), by rw [Pg.within, if_pos h]; exact ⟨p, rfl, h, hQ⟩⟩
theorem Chk.run {d : D} {Q : Pg → Prop} {Ex : Str → Prop} {R : Prop} (h : Chk d Q Ex) (hR : ∀ p : Pg, d = p.d → p.ok 6 = true → Q p → R) : S_check_program [d] (fun _ => R) Ex := by
  refine ⟨d, rfl, h.1, ?_⟩
  have h2 := h.2
  split
  · rename_i hw
    rw [if_pos hw] at h2
    obtain ⟨p, e, hp, hQ⟩ := h2
    exact hR p e hp hQ
  · rename_i hw
    rw [if_neg hw] at h2
    exact h2
def S_depth : Spec := fun ds P Ex => ∃ d, ds = [d] ∧ Chk d (fun p => P (.int p.deep)) Ex
theorem p_depth : ∀ ds Q Ex, S_depth ds Q Ex → t_depth S_check_program (S_deepest 6) (startD 1 ds) (endsOf Q Ex) := by
  rintro _ Q Ex ⟨d, rfl, h⟩
  simp [t_depth]
  refine h.run fun p e hp hQ => ?_
  subst e
  exact ⟨p, 6, rfl, Nat.le_refl _, hp, hQ⟩
def S_plain : Spec := fun ds P Ex => ∃ d, ds = [d] ∧ Chk d (fun p => P p.plain.d) Ex
theorem p_plain : ∀ ds Q Ex, S_plain ds Q Ex → t_plain S_check_program (S_made_plain 6) (startD 1 ds) (endsOf Q Ex) := by
  rintro _ Q Ex ⟨d, rfl, h⟩
  simp [t_plain]
  refine h.run fun p e hp hQ => ?_
  subst e
  exact ⟨p, 6, rfl, Nat.le_refl _, Nat.le_refl _, hp, hQ⟩
def S_needX : Spec := fun ds P Ex => ∃ d, ds = [d] ∧ Chk d (fun p => P (.int (max 0 (p.need 0)))) Ex
theorem p_needX : ∀ ds Q Ex, S_needX ds Q Ex → t_need S_check_program (S_needed 6) (startD 1 ds) (endsOf Q Ex) := by
  rintro _ Q Ex ⟨d, rfl, h⟩
  simp [t_need]
  refine h.run fun p e hp hQ => ?_
  subst e
  refine ⟨p, 0, 6, rfl, Nat.le_refl _, hp, ?_⟩
  simpa using hQ
theorem mark_turn {c0 c1 : Cell} {P : List (Str × D) → Prop} : ∀ (ms : List Str) (acc : List (Str × D)), (acc.map (·.1)).Nodup → acc.length + ms.length ≤ 1000 →
    (∀ kvs, (kvs.map (·.1)).Nodup → (∀ m, m ∈ kvs.map (·.1) ↔ m ∈ acc.map (·.1) ∨ m ∈ ms) → P kvs) → dcN (dgN 1) dYes (dVar 1) (dC (.bl true)) [c0, c1] (ms.map D.str) acc P
  | [], acc, nd, _, h => h acc nd fun m => by simp
  | m :: ms, acc, nd, hl, h => by
    rw [List.length_cons] at hl
    have hk := putS_keys acc m (.bl true)
    rw [List.map_cons]
    unfold dcN
    simp
    refine ⟨by omega, ?_⟩
    refine mark_turn ms (putS acc m (.bl true)) ?_ ?_ fun kvs n1 n2 => h kvs n1 fun x => ?_
    · rw [hk]
      split
      · exact nd
      · rename_i hm
        exact List.nodup_append.mpr ⟨nd, by simp, fun a ha b hb => by
          rw [List.mem_singleton.mp hb]
          exact fun e => hm (e ▸ ha)⟩
    · have := congrArg List.length hk
      rw [List.length_map] at this
      rw [this]
      split
      · rw [List.length_map]; omega
      · rw [List.length_append, List.length_map]; simp; omega
    · rw [n2 x, hk]
      split
      · rename_i hm
        constructor
        · rintro (z | z)
          · exact .inl z
          · exact .inr (List.mem_cons_of_mem _ z)
        · rintro (z | z)
          · exact .inl z
          · rcases List.mem_cons.mp z with z | z
            · exact .inl (z ▸ hm)
            · exact .inr z
      · rw [List.mem_append, List.mem_singleton, List.mem_cons, or_assoc]
def S_marks : Spec := fun ds P Ex => ∃ d, ds = [d] ∧ Chk d (fun p => p.marks.length < 64 ∧ ∀ ys : List Str, ys.Nodup → (∀ z, z ∈ ys ↔ z ∈ p.marks) → sortedS ys = true → P (.lst (ys.map D.str))) Ex
theorem nodup_few {α : Type} [DecidableEq α] {l m : List α} (nd : l.Nodup) (h : ∀ x ∈ l, x ∈ m) : l.length ≤ m.length := by
  induction l generalizing m with
  | nil => exact Nat.zero_le _
  | cons x l ih =>
    obtain ⟨n1, n2⟩ := List.nodup_cons.mp nd
    have hx := h x List.mem_cons_self
    have := ih (m := m.erase x) n2 fun y hy => (List.mem_erase_of_ne (fun e => n1 (by rw [← e]; exact hy))).mpr (h y (List.mem_cons_of_mem _ hy))
    rw [List.length_erase_of_mem hx] at this
    have : 0 < m.length := List.length_pos_of_mem hx
    rw [List.length_cons]
    omega
theorem p_marks : ∀ ds Q Ex, S_marks ds Q Ex → t_marks S_check_program (S_all_marks 6) (startD 2 ds) (endsOf Q Ex) := by
  rintro _ Q Ex ⟨d, rfl, h⟩
  simp [t_marks]
  refine h.run fun p e hp hQ => ?_
  subst e
  obtain ⟨h64, hQ⟩ := hQ
  refine ⟨p, 6, rfl, Nat.le_refl _, Nat.le_refl _, hp, ?_⟩
  simp
  refine mark_turn p.marks [] (by simp) (by simp; omega) fun kvs n1 n2 => ?_
  have n3 : ∀ m, m ∈ kvs.map (·.1) ↔ m ∈ p.marks := fun m => by rw [n2]; simp
  have l := nodup_few n1 fun x hx => (n3 x).mp hx
  rw [List.length_map] at l
  exact ⟨by omega, fun ys hy hs => hQ ys (hy.nodup_iff.mpr n1) (fun z => hy.mem_iff.trans (n3 z)) hs⟩
def S__law_refused : Spec := fun ds P _ => ∃ (d : D) (i : Int), ds = [d, .int i] ∧ Kn 7 d ∧ withinD 6 d = false ∧ P (.bl true)
theorem p__law_refused {m : Str → Option Bool} (hm : m "BadProgram" = some true) : ∀ ds Q Ex, S__law_refused ds Q Ex → t__law_refused m S_marks S_depth S_needX S_plain (startD 3 ds) (endsOf Q Ex) := by
  rintro _ Q Ex ⟨d, i, rfl, hk, hw, h⟩
  have chk : ∀ (R : Pg → Prop) (E : Str → Prop), E "BadProgram" → Chk d R E := fun R E hE => ⟨hk, by rw [hw, if_neg Bool.false_ne_true]; exact hE⟩
  simp [t__law_refused]
  split
  · refine ⟨d, rfl, chk _ _ ?_⟩
    simp [hm]
    exact h
  · split
    · refine ⟨d, rfl, chk _ _ ?_⟩
      simp [hm]
      exact h
    · split
      · refine ⟨d, rfl, chk _ _ ?_⟩
        simp [hm]
        exact h
      · refine ⟨d, rfl, chk _ _ ?_⟩
        simp [hm]
        exact h
theorem Is.addL {ρ : Rho} {a b : DT} {x y : List D} (ha : Is ρ a (.lst x)) (hb : Is ρ b (.lst y)) (h : x.length + y.length ≤ 16777216) : Is ρ (dOp fAdd a b) (.lst (x ++ y)) := fun P Ex hp => ha _ _ (hb _ _ ⟨h, hp⟩)
theorem seqSet {i : Nat} {t : DT} {u : DS} {d : D} {ρ : Rho} {k : EndsD} (h : Is ρ t d) (hu : u (ρ.set i (.fz d)) k) : dSeq (dSet i t) u ρ k := h _ _ hu
abbrev atL (f : Spec → Spec → Spec → Spec → Spec → Spec → Spec → Spec → Spec → Spec → Spec → Spec → Spec → DS) : DS := f S__law_begin (S__law_program 5) S__law_draw S_marks (S_all_marks 6) S_is_program S_needX (S__law_need 6) S_depth (S_deepest 6) S_plain (S_made_plain 6) S__law_refused
abbrev atT (f : Spec → Spec → Spec → Spec → Spec → Spec → Spec → Spec → Spec → Spec → Spec → Spec → Spec → DT) : DT := f S__law_begin (S__law_program 5) S__law_draw S_marks (S_all_marks 6) S_is_program S_needX (S__law_need 6) S_depth (S_deepest 6) S_plain (S_made_plain 6) S__law_refused

def endM : D := .tup [.str "mark", .str "hit"]
def deepD : Nat → D
  | 0 => endM
  | n + 1 => .tup [.str "draw", .str "back", deepD n, endM]
def oddA : List D := [.non, .str "hit", .tup [.str "mark"], .tup [.str "mark", .str "Hit"], .tup [.str "mark", .str ""], .tup [.str "mark", .str "ninesigns"], .tup [.str "draw", .str "back", endM], deepD 7]
def oddB : List D := oddA ++ [.tup [.str "draw", .str "away", endM, endM], .lst [.str "mark", .str "hit"], .tup [.str "draw", .str "back", endM, .non]]
def oddP : List D := oddB ++ [.tup [.str "mark", .str "hit", .int 1], .tup [.int 1, .int 2], .tup []]
theorem odd_len : oddA.length = 8 ∧ oddB.length = 11 ∧ oddP.length = 14 := ⟨rfl, rfl, rfl⟩
theorem is_b2 {ρ : Rho} (h3 : ρ[3]? = some (.fz endM)) (h4 : ρ[4]? = some (.fz (deepD 7))) : Is ρ (atT b2_law) (.lst oddA) :=
  .lst (.cons .c (.cons .c (.cons (.tup (.cons .c .nil) rfl) (.cons (.tup (.cons .c (.cons .c .nil)) rfl) (.cons (.tup (.cons .c (.cons .c .nil)) rfl) (.cons (.tup (.cons .c (.cons .c .nil)) rfl) (.cons (.tup (.cons .c (.cons .c (.cons (.var h3) .nil))) rfl) (.cons (.var h4) .nil)))))))) rfl
theorem is_b3 {ρ : Rho} (h3 : ρ[3]? = some (.fz endM)) : Is ρ (atT b3_law) (.lst [.tup [.str "draw", .str "away", endM, endM], .lst [.str "mark", .str "hit"], .tup [.str "draw", .str "back", endM, .non]]) :=
  .lst (.cons (.tup (.cons .c (.cons .c (.cons (.var h3) (.cons (.var h3) .nil)))) rfl) (.cons (.lst (.cons .c (.cons .c .nil)) rfl) (.cons (.tup (.cons .c (.cons .c (.cons (.var h3) (.cons .c .nil)))) rfl) .nil))) rfl
theorem is_b4 {ρ : Rho} : Is ρ (atT b4_law) (.lst [.tup [.str "mark", .str "hit", .int 1], .tup [.int 1, .int 2], .tup []]) :=
  .lst (.cons (.tup (.cons .c (.cons .c (.cons .c .nil))) rfl) (.cons (.tup (.cons .c (.cons .c .nil)) rfl) (.cons (.tup .nil rfl) .nil))) rfl
theorem lits : ("mark" : Str).length ≤ 16777216 ∧ ("draw" : Str).length ≤ 16777216 ∧ ("hit" : Str).length ≤ 16777216 ∧ ("Hit" : Str).length ≤ 16777216 ∧ ("" : Str).length ≤ 16777216 ∧ ("ninesigns" : Str).length ≤ 16777216 ∧ ("back" : Str).length ≤ 16777216 ∧ ("away" : Str).length ≤ 16777216 := by decide +kernel
theorem words_no : wordB "Hit" = false ∧ wordB "" = false ∧ wordB "ninesigns" = false ∧ wordB "hit" = true ∧ wayB "away" = false ∧ wayB "back" = true := by decide +kernel
theorem kn_nt {d : D} (h : known d = true) (hs : ∀ w, d = .str w → w.length ≤ 16777216) (ht : ∀ ds, d ≠ .tup ds) : ∀ n, Kn n d
  | 0 => ⟨h, hs⟩
  | _ + 1 => ⟨⟨h, hs⟩, fun ds e => absurd e (ht ds)⟩
theorem kn_tup {n : Nat} {ds : List D} (h : ∀ d ∈ ds, Kn n d) : Kn (n + 1) (.tup ds) := ⟨⟨rfl, fun _ e => by cases e⟩, fun _ e d hd => by cases e; exact h d hd⟩
theorem kn_tup' {ds : List D} (h : ∀ n, ∀ d ∈ ds, Kn n d) : ∀ n, Kn n (.tup ds)
  | 0 => ⟨rfl, fun _ e => by cases e⟩
  | n + 1 => kn_tup (h n)
theorem kn_end : ∀ n, Kn n endM := kn_tup' fun n d hd => by
  simp only [List.mem_cons, List.not_mem_nil, or_false] at hd
  rcases hd with rfl | rfl
  · exact kn_str lits.1 n
  · exact kn_str lits.2.2.1 n
theorem kn_deep : ∀ (m n : Nat), Kn n (deepD m)
  | 0 => kn_end
  | m + 1 => kn_tup' fun n d hd => by
    simp only [List.mem_cons, List.not_mem_nil, or_false] at hd
    rcases hd with rfl | rfl | rfl | rfl
    · exact kn_str lits.2.1 n
    · exact kn_str lits.2.2.2.2.2.2.1 n
    · exact kn_deep m n
    · exact kn_end n
theorem kn_int (i : Int) (n : Nat) : Kn n (.int i) := kn_nt rfl (fun _ e => by cases e) (fun _ e => by cases e) n
theorem odd_kn : ∀ d ∈ oddP, Kn 7 d := by
  obtain ⟨s1, s2, s3, s4, s5, s6, s7, s8⟩ := lits
  have hS : ∀ {w : Str}, w.length ≤ 16777216 → ∀ n, Kn n (.str w) := fun h n => kn_str h n
  intro d hd
  simp only [oddP, oddB, oddA, List.cons_append, List.nil_append, List.mem_cons, List.not_mem_nil, or_false] at hd
  rcases hd with rfl | rfl | rfl | rfl | rfl | rfl | rfl | rfl | rfl | rfl | rfl | rfl | rfl | rfl
  · exact kn_nt rfl (fun _ e => by cases e) (fun _ e => by cases e) 7
  · exact hS s3 7
  · refine kn_tup' (fun n d hd => ?_) 7
    simp only [List.mem_cons, List.not_mem_nil, or_false] at hd
    subst hd; exact hS s1 n
  · refine kn_tup' (fun n d hd => ?_) 7
    simp only [List.mem_cons, List.not_mem_nil, or_false] at hd
    rcases hd with rfl | rfl
    · exact hS s1 n
    · exact hS s4 n
  · refine kn_tup' (fun n d hd => ?_) 7
    simp only [List.mem_cons, List.not_mem_nil, or_false] at hd
    rcases hd with rfl | rfl
    · exact hS s1 n
    · exact hS s5 n
  · refine kn_tup' (fun n d hd => ?_) 7
    simp only [List.mem_cons, List.not_mem_nil, or_false] at hd
    rcases hd with rfl | rfl
    · exact hS s1 n
    · exact hS s6 n
  · refine kn_tup' (fun n d hd => ?_) 7
    simp only [List.mem_cons, List.not_mem_nil, or_false] at hd
    rcases hd with rfl | rfl | rfl
    · exact hS s2 n
    · exact hS s7 n
    · exact kn_end n
  · exact kn_deep 7 7
  · refine kn_tup' (fun n d hd => ?_) 7
    simp only [List.mem_cons, List.not_mem_nil, or_false] at hd
    rcases hd with rfl | rfl | rfl | rfl
    · exact hS s2 n
    · exact hS s8 n
    · exact kn_end n
    · exact kn_end n
  · exact kn_nt rfl (fun _ e => by cases e) (fun _ e => by cases e) 7
  · refine kn_tup' (fun n d hd => ?_) 7
    simp only [List.mem_cons, List.not_mem_nil, or_false] at hd
    rcases hd with rfl | rfl | rfl | rfl
    · exact hS s2 n
    · exact hS s7 n
    · exact kn_end n
    · exact kn_nt rfl (fun _ e => by cases e) (fun _ e => by cases e) n
  · refine kn_tup' (fun n d hd => ?_) 7
    simp only [List.mem_cons, List.not_mem_nil, or_false] at hd
    rcases hd with rfl | rfl | rfl
    · exact hS s1 n
    · exact hS s3 n
    · exact kn_int 1 n
  · refine kn_tup' (fun n d hd => ?_) 7
    simp only [List.mem_cons, List.not_mem_nil, or_false] at hd
    rcases hd with rfl | rfl <;> exact kn_int _ n
  · refine kn_tup' (fun n d hd => ?_) 7
    cases hd
theorem odd_no : ∀ d ∈ oddP, withinD 6 d = false := by
  obtain ⟨w1, w2, w3, w4, w5, w6⟩ := words_no
  intro d hd
  simp only [oddP, oddB, oddA, List.cons_append, List.nil_append, List.mem_cons, List.not_mem_nil, or_false] at hd
  rcases hd with rfl | rfl | rfl | rfl | rfl | rfl | rfl | rfl | rfl | rfl | rfl | rfl | rfl | rfl
  all_goals simp [withinD, isWordD, deepD, endM, w1, w2, w3, w4, w5, w6]
theorem p_r10  {c0 c2 c3 c4 c5 c7 : Cell} {k : EndsD} (h : k.rt (.bl true)) : atL r10_law [c0, .fz .drw, c2, c3, c4, c5, .fz (.lst oddP), c7] k := by
  simp [atL, r10_law]
  refine ⟨14, by rw [odd_len.2.2]; rfl, by decide, by decide, fun r r0 r14 => ?_⟩
  obtain ⟨i, rfl⟩ : ∃ i : Nat, r = i := ⟨r.toNat, by omega⟩
  have hi : i < oddP.length := by rw [odd_len.2.2]; omega
  have hm := List.getElem_mem hi
  refine ⟨oddP[i], by rw [atI_n hi, List.getElem?_eq_getElem hi], ?_⟩
  refine ⟨oddP[i], rfl, odd_kn _ hm, ?_⟩
  rw [odd_no _ hm]
  simp
  refine ⟨4, rfl, by decide, by decide, fun r r0 r4 => ?_⟩
  exact ⟨oddP[i], r, rfl, odd_kn _ hm, odd_no _ hm, h⟩

theorem p_r9  {c0 c2 c3 c4 c5 c7 : Cell} {k : EndsD} (h : k.rt (.bl true)) : atL r9_law [c0, .fz .drw, c2, c3, c4, c5, .fz (.lst oddB), c7] k := by
  show dSeq (dSet 6 (dOp fAdd (dVar 6) (atT b4_law))) (atL r10_law) _ k
  exact seqSet (Is.addL (.var rfl) is_b4 (by rw [odd_len.2.1]; simp)) (p_r10 h)

theorem p_r8  {c0 c2 c4 c5 c7 : Cell} {k : EndsD} (h : k.rt (.bl true)) : atL r8_law [c0, .fz .drw, c2, .fz endM, c4, c5, .fz (.lst oddA), c7] k := by
  show dSeq (dSet 6 (dOp fAdd (dVar 6) (atT b3_law))) (atL r9_law) _ k
  exact seqSet (Is.addL (.var rfl) (is_b3 rfl) (by rw [odd_len.1]; simp)) (p_r9 h)

theorem p_r7  {c0 c2 c5 c6 c7 : Cell} {k : EndsD} (h : k.rt (.bl true)) : atL r7_law [c0, .fz .drw, c2, .fz endM, .fz (deepD 7), c5, c6, c7] k := by
  simp [atL, r7_law]
  refine is_b2 rfl rfl _ _ ?_
  exact p_r8 h

theorem deep_loop {c0 c2 c6 c7 : Cell} {k : EndsD} : ∀ (js : List D) (n : Nat) (c5 : Cell), (∀ c5, k.nx [c0, .fz .drw, c2, .fz endM, .fz (deepD (n + js.length)), c5, c6, c7]) → forN (dgN 5) (atL b1_law) js [c0, .fz .drw, c2, .fz endM, .fz (deepD n), c5, c6, c7] k
  | [], n, c5, h => h c5
  | j :: js, n, c5, h => by
    unfold forN
    simp [atL, b1_law]
    refine deep_loop js (n + 1) _ fun c5 => ?_
    have h := h c5
    rw [List.length_cons, show n + (js.length + 1) = n + 1 + js.length by omega] at h
    exact h

theorem p_r6  {c0 c2 c5 c6 c7 : Cell} {k : EndsD} (h : k.rt (.bl true)) : atL r6_law [c0, .fz .drw, c2, .fz endM, .fz endM, c5, c6, c7] k := by
  simp [atL, r6_law]
  refine deep_loop (rangeD 0 7) 0 _ fun c5 => ?_
  exact p_r7 h

theorem p_r3 {p : Pg} (hp : p.ok 5 = true) {c0 c3 c4 c5 c6 c7 : Cell} {k : EndsD} (h : k.rt (.bl true)) : atL r3_law [c0, .fz .drw, .fz p.d, c3, c4, c5, c6, c7] k := by
  have hp6 : p.ok 6 = true := Pg.okm (by decide) hp
  simp [atL, r3_law]
  refine ⟨p.d, rfl, Chk.ok hp6 ?_⟩
  refine ⟨p, 6, rfl, Nat.le_refl _, Nat.le_refl _, hp6, ?_⟩
  have e := Pg.eqOk (Pg.plain_ok hp6) (Nat.le_refl _)
  have d := Pg.deq_self p.plain
  obtain ⟨x, ex⟩ : ∃ x, p.plain.d = .tup x := by cases p.plain <;> exact ⟨_, rfl⟩
  rw [ex] at e d ⊢
  refine ⟨e, e, ?_⟩
  rw [d]
  simp [r4_law, r5_law]
  exact p_r6 h

theorem p_r2 {p : Pg} (hp : p.ok 5 = true) {c0 c3 c4 c5 c6 c7 : Cell} {k : EndsD} (h : k.rt (.bl true)) : atL r2_law [c0, .fz .drw, .fz p.d, c3, c4, c5, c6, c7] k := by
  have hp6 : p.ok 6 = true := Pg.okm (by decide) hp
  simp [atL, r2_law]
  refine ⟨p.d, rfl, Chk.ok hp6 ?_⟩
  refine ⟨p, 6, rfl, Nat.le_refl _, hp6, ?_⟩
  simp
  refine ⟨p.d, rfl, Chk.ok hp6 ?_⟩
  refine ⟨p, 0, 6, rfl, Nat.le_refl _, hp6, ?_⟩
  have : max 0 (p.need 0) = p.need 0 := by
    cases p with
    | mark w => rfl
    | draw w a b => unfold Pg.need; omega
  rw [this]
  simp
  exact p_r3 hp h

theorem p_r1 {p : Pg} (hp : p.ok 5 = true) {c0 c3 c4 c5 c6 c7 : Cell} {k : EndsD} (h : k.rt (.bl true)) : atL r1_law [c0, .fz .drw, .fz p.d, c3, c4, c5, c6, c7] k := by
  have hp6 : p.ok 6 = true := Pg.okm (by decide) hp
  have l := Pg.marks_len hp
  simp [atL, r1_law]
  refine ⟨p.d, rfl, Pg.kn 7 (Pg.ok_fit hp6), ?_⟩
  rw [Pg.within, hp6]
  simp
  refine ⟨p.d, rfl, Chk.ok hp6 ⟨by omega, fun ys n1 n2 n3 => ?_⟩⟩
  refine ⟨p, 6, rfl, Nat.le_refl _, Nat.le_refl _, hp6, ?_⟩
  simp
  refine ⟨by omega, fun zs m1 m2 m3 => ?_⟩
  have pe : zs.Perm ys := perm_of_sub n1 (fun x hx => (m2 x).mpr ((n2 x).mp hx)) (nodup_few m1 fun x hx => (n2 x).mpr ((m2 x).mp hx))
  have e : zs = ys := sortedS_unique pe m3 n3
  subst e
  have ws : ∀ x ∈ zs, PyData.strOk x = true := fun x hx => word_strOk (Pg.mark_word hp ((n2 x).mp hx))
  refine ⟨eqOk_strs ws, eqOk_strs ws, ?_⟩
  have d : deq (.lst (zs.map D.str)) (.lst (zs.map D.str)) = true := by
    show deqs _ _ = true
    rw [deqs_strs]
    simp
  rw [d]
  simp
  exact p_r2 hp h

theorem p_law : ∀ ds Q Ex, spLaw ds Q Ex → atL t_law (startD 8 ds) (endsOf Q Ex) := by
  rintro _ Q Ex ⟨ns, rfl, h⟩
  simp [atL, t_law]
  refine ⟨ns, rfl, ?_⟩
  refine ⟨5, rfl, by decide, by decide, fun r r0 r5 => ?_⟩
  simp
  refine ⟨(1 + r).toNat, by simp; omega, by omega, fun p hp => ?_⟩
  exact p_r1 (Pg.okm (by omega) hp) h
def lawRoom : Nat := 13
theorem law_ok {P : Program} {w : World} {K : PySem.W.Frag} {mg : Str → Option Value} {base : Heap} {fd : FuncData} (F : FunD K "law" "law" (defArgs (top 39)) (defBody (top 39)) (defScope (top 39)) [] [] (He.ga K "law") fd) (T : Kit K mg) : FnOk P w K mg base (L2.CX P w) lawRoom (He.ga K "law") fd ["_law_script"] (spD K spLaw) := by
  have B := T.bi
  have f__law_begin := fn__law_begin (P := P) (w := w) (base := base) (k := 0) T.y__law_begin B
  have f__law_draw := fn__law_draw (P := P) (w := w) (base := base) (k := 0) T.y__law_draw B
  have f__law_ways : Fn P w K mg base 1 "_law_ways" S__law_ways := fn__law_ways (P := P) (w := w) (base := base) (k := 0) (S := S__law_ways) T.y__law_ways B (by intro ds Q Ex h; repeat' (first | (obtain ⟨e, _⟩ := h; subst e; rfl) | (obtain ⟨_, h⟩ := h))) p__law_ways
  have f__law_program : Fn P w K mg base (0 + 2 + 5) "_law_program" (S__law_program 5) := rec__law_program (P := P) (w := w) (base := base) (k := 0) (S := S__law_program) T.y__law_program B f__law_draw (by omega) f__law_ways (by omega) (fun N => by intro ds Q Ex h; repeat' (first | (obtain ⟨e, _⟩ := h; subst e; rfl) | (obtain ⟨_, h⟩ := h))) p__law_program 5
  have f_is_word : Fn P w K mg base 1 "is_word" S_is_word := fn_is_word (P := P) (w := w) (base := base) (k := 0) (S := S_is_word) T.y_is_word B T.c_SMALL (by intro ds Q Ex h; repeat' (first | (obtain ⟨e, _⟩ := h; subst e; rfl) | (obtain ⟨_, h⟩ := h))) p_is_word
  have f_is_within : Fn P w K mg base (0 + 2 + 6) "is_within" (S_is_within 6) := rec_is_within (P := P) (w := w) (base := base) (k := 0) (S := S_is_within) T.y_is_within B f_is_word (by omega) T.c_WAYS (fun N => by intro ds Q Ex h; repeat' (first | (obtain ⟨e, _⟩ := h; subst e; rfl) | (obtain ⟨_, h⟩ := h))) p_is_within 6
  have f_is_program : Fn P w K mg base 9 "is_program" S_is_program := fn_is_program (P := P) (w := w) (base := base) (k := 8) (S := S_is_program) T.y_is_program B f_is_within (by omega) T.c_MOST_DRAWS (by intro ds Q Ex h; repeat' (first | (obtain ⟨e, _⟩ := h; subst e; rfl) | (obtain ⟨_, h⟩ := h))) p_is_program
  have f_check_program : Fn P w K mg base 10 "check_program" S_check_program := fn_check_program (P := P) (w := w) (base := base) (k := 9) (S := S_check_program) T.y_check_program B f_is_program (by omega) T.x_BadProgram (by intro ds Q Ex h; repeat' (first | (obtain ⟨e, _⟩ := h; subst e; rfl) | (obtain ⟨_, h⟩ := h))) p_check_program
  have f_all_marks : Fn P w K mg base (0 + 2 + 6) "all_marks" (S_all_marks 6) := rec_all_marks (P := P) (w := w) (base := base) (k := 0) (S := S_all_marks) T.y_all_marks B (fun N => by intro ds Q Ex h; repeat' (first | (obtain ⟨e, _⟩ := h; subst e; rfl) | (obtain ⟨_, h⟩ := h))) p_all_marks 6
  have f_marks : Fn P w K mg base 11 "marks" S_marks := fn_marks (P := P) (w := w) (base := base) (k := 10) (S := S_marks) T.y_marks B f_check_program (by omega) f_all_marks (by omega) (by intro ds Q Ex h; repeat' (first | (obtain ⟨e, _⟩ := h; subst e; rfl) | (obtain ⟨_, h⟩ := h))) p_marks
  have f__law_all : Fn P w K mg base (0 + 2 + 6) "_law_all" (S_all_marks 6) := rec__law_all (P := P) (w := w) (base := base) (k := 0) (S := S_all_marks) T.y__law_all B (fun N => by intro ds Q Ex h; repeat' (first | (obtain ⟨e, _⟩ := h; subst e; rfl) | (obtain ⟨_, h⟩ := h))) p__law_all 6
  have f_turned : Fn P w K mg base 1 "turned" S_turned := fn_turned (P := P) (w := w) (base := base) (k := 0) (S := S_turned) T.y_turned B (by intro ds Q Ex h; repeat' (first | (obtain ⟨e, _⟩ := h; subst e; rfl) | (obtain ⟨_, h⟩ := h))) p_turned
  have f_needed : Fn P w K mg base (0 + 2 + 6) "needed" (S_needed 6) := rec_needed (P := P) (w := w) (base := base) (k := 0) (S := S_needed) T.y_needed B f_turned (by omega) T.c_COLOURS (fun N => by intro ds Q Ex h; repeat' (first | (obtain ⟨e, _⟩ := h; subst e; rfl) | (obtain ⟨_, h⟩ := h))) p_needed 6
  have f_need : Fn P w K mg base 11 "need" S_needX := fn_need (P := P) (w := w) (base := base) (k := 10) (S := S_needX) T.y_need B f_check_program (by omega) f_needed (by omega) (by intro ds Q Ex h; repeat' (first | (obtain ⟨e, _⟩ := h; subst e; rfl) | (obtain ⟨_, h⟩ := h))) p_needX
  have f__law_need : Fn P w K mg base (0 + 2 + 6) "_law_need" (S__law_need 6) := rec__law_need (P := P) (w := w) (base := base) (k := 0) (S := S__law_need) T.y__law_need B (fun N => by intro ds Q Ex h; repeat' (first | (obtain ⟨e, _⟩ := h; subst e; rfl) | (obtain ⟨_, h⟩ := h))) p__law_need 6
  have f_deepest : Fn P w K mg base (0 + 2 + 6) "deepest" (S_deepest 6) := rec_deepest (P := P) (w := w) (base := base) (k := 0) (S := S_deepest) T.y_deepest B (fun N => by intro ds Q Ex h; repeat' (first | (obtain ⟨e, _⟩ := h; subst e; rfl) | (obtain ⟨_, h⟩ := h))) p_deepest 6
  have f_depth : Fn P w K mg base 11 "depth" S_depth := fn_depth (P := P) (w := w) (base := base) (k := 10) (S := S_depth) T.y_depth B f_check_program (by omega) f_deepest (by omega) (by intro ds Q Ex h; repeat' (first | (obtain ⟨e, _⟩ := h; subst e; rfl) | (obtain ⟨_, h⟩ := h))) p_depth
  have f__law_deep : Fn P w K mg base (0 + 2 + 6) "_law_deep" (S_deepest 6) := rec__law_deep (P := P) (w := w) (base := base) (k := 0) (S := S_deepest) T.y__law_deep B (fun N => by intro ds Q Ex h; repeat' (first | (obtain ⟨e, _⟩ := h; subst e; rfl) | (obtain ⟨_, h⟩ := h))) p__law_deep 6
  have f_made_plain : Fn P w K mg base (0 + 2 + 6) "made_plain" (S_made_plain 6) := rec_made_plain (P := P) (w := w) (base := base) (k := 0) (S := S_made_plain) T.y_made_plain B (fun N => by intro ds Q Ex h; repeat' (first | (obtain ⟨e, _⟩ := h; subst e; rfl) | (obtain ⟨_, h⟩ := h))) p_made_plain 6
  have f_plain : Fn P w K mg base 11 "plain" S_plain := fn_plain (P := P) (w := w) (base := base) (k := 10) (S := S_plain) T.y_plain B f_check_program (by omega) f_made_plain (by omega) (by intro ds Q Ex h; repeat' (first | (obtain ⟨e, _⟩ := h; subst e; rfl) | (obtain ⟨_, h⟩ := h))) p_plain
  have f__law_plain : Fn P w K mg base (0 + 2 + 6) "_law_plain" (S_made_plain 6) := rec__law_plain (P := P) (w := w) (base := base) (k := 0) (S := S_made_plain) T.y__law_plain B (fun N => by intro ds Q Ex h; repeat' (first | (obtain ⟨e, _⟩ := h; subst e; rfl) | (obtain ⟨_, h⟩ := h))) p__law_plain 6
  have f__law_refused : Fn P w K mg base 12 "_law_refused" S__law_refused := fn__law_refused (P := P) (w := w) (base := base) (k := 11) (S := S__law_refused) T.y__law_refused B f_marks (by omega) f_depth (by omega) f_need (by omega) f_plain (by omega) T.x_BadProgram T.e_BadProgram (by intro ds Q Ex h; repeat' (first | (obtain ⟨e, _⟩ := h; subst e; rfl) | (obtain ⟨_, h⟩ := h))) (p__law_refused (by decide +kernel))
  exact ok_law (k := 12) F B f__law_begin (by omega) f__law_program (by omega) f__law_draw (by omega) f_marks (by omega) f__law_all (by omega) f_is_program (by omega) f_need (by omega) f__law_need (by omega) f_depth (by omega) f__law_deep (by omega) f_plain (by omega) f__law_plain (by omega) f__law_refused (by omega) (by intro ds Q Ex h; repeat' (first | (obtain ⟨e, _⟩ := h; subst e; rfl) | (obtain ⟨_, h⟩ := h))) p_law

end AU
open PySem PySem.W PySem.Calls PyProof.Rows AU
theorem PySem.Challenge.cw_anyurn_k02_programs_looked_at_holds : PySem.Challenge.rw_anyurn_k02_programs_looked_at.Holds := by
  w_on; o_law
  refine HandSHeadRun.head_any (r := RL) (q := view RL.prog [39]) (H := hkL) (ob := obL) (M := 20000) (loose := loose) (d := HandSHeadRun.topDef RL.prog 39) (kwd := []) obL_eq (by kernel_rfl) (fun s => by kernel_rfl) runL (by kernel_rfl) (by kernel_rfl) (by kernel_rfl) (by rfl)
    (by first | assumption | decide +kernel) (by decide +kernel) ⟨rfl, rfl, rfl, rfl, rfl, by decide +kernel⟩ ?hw ?hc
  case hw => w_witness2
  case hc =>
    refine L2.walk_ofE (l := PySem.Challenge.rw_anyurn_k02_programs_looked_at) (n := 63) (k := lawRoom) (x := "_law_script") (CX := L2.CX0) rfl (by decide) (by kernel_rfl) ⟨rfl, by decide, by decide⟩ ?F (fun _ _ _ _ z => z)
    intro w mg fa h Y G hmg0
    obtain ⟨K, KX, c⟩ := Y
    have hmg : mg ("law" : PySem.Str) = some (.ref fa) := by
      rw [show ("law" : PySem.Str) = (HandSHeadRun.topDef RL.prog 39).name by kernel_rfl]
      exact hmg0
    have T := kit_all_of KX G c
    obtain ⟨e, fd, F⟩ := law_fin T.y_law hmg
    subst e
    have b := L2.FunD.bindsA (ps := ["_law_script"]) F fun _ _ _ _ _ _ us hl => match us, hl with | [_], _ => rfl
    exact ⟨K, fd, (fun vs H Q _ => spD K spLaw vs H Q fun _ _ _ => False), KX, fun s v => b s [v] rfl, fun H a ns hl hO hS => law_start hl hS hO, fun base _ _ => fn_cx0 (law_ok (base := base) F T)⟩

