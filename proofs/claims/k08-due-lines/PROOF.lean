import PyProof.Rows.All
import Wide.All
import OpenK.AllK
import Wide.FinOn
import HandS.ForMost
import HandS.Walk
import HandS.NoneIn
import HandS.WordsExc
import HandS.TryOnly
import HandS.TryMany
import HandS.ExcIs
import HandS.More
import HandS.IsInst
import HandS.Style
import PySem.Challenge.RW_swornhall_k08_due_lines
set_option Elab.async false
set_option linter.all false
set_option maxRecDepth 100000
set_option maxHeartbeats 4000000
/-! the engine: readings over data. A value's type is a predicate that stays while what is settled grows. -/
namespace Sw
open PySem L2

/-! ### types, growth, cells, states -/
structure Ty where
  ok : Hp → V → Prop
  mono : ∀ {S S' : Hp} {v : V}, Same S S' → ok S v → ok S' v

/-! ### data: what stands in H by tracked lists and tuples -/
mutual
inductive Dq (H : Hp) : V → PyData → Prop
  | non : Dq H .non .none
  | bl (b : Bool) : Dq H (.bl b) (.bool b)
  | int (i : Int) : Dq H (.int i) (.int i)
  | str (x : Str) : Dq H (.str x) (.str x)
  | lst {a : Addr} {xs : List V} {ds : List PyData} : H a = some (.lst xs) → DqAll H xs ds → Dq H (.ref a) (.list ds)
  | tup {a : Addr} {xs : List V} {ds : List PyData} : H a = some (.tup xs) → DqAll H xs ds → Dq H (.ref a) (.tuple ds)
inductive DqAll (H : Hp) : List V → List PyData → Prop
  | nil : DqAll H [] []
  | cons {v : V} {vs : List V} {d : PyData} {ds : List PyData} : Dq H v d → DqAll H vs ds → DqAll H (v :: vs) (d :: ds)
end
mutual
theorem dp_mono {H H' : Hp} (e : Same H H') : ∀ (d : PyData) (v : V), Dq H v d → Dq H' v d
  | .none, _, h => by cases h; exact .non
  | .bool _, _, h => by cases h; exact .bl _
  | .int _, _, h => by cases h; exact .int _
  | .str _, _, h => by cases h; exact .str _
  | .list ds, _, h => by
    cases h with
    | lst hs ha => exact .lst (e _ _ hs) (dps_mono e ds _ ha)
  | .tuple ds, _, h => by
    cases h with
    | tup hs ha => exact .tup (e _ _ hs) (dps_mono e ds _ ha)
  | .dict _, _, h => by cases h
theorem dps_mono {H H' : Hp} (e : Same H H') : ∀ (ds : List PyData) (vs : List V), DqAll H vs ds → DqAll H' vs ds
  | [], _, h => by cases h; exact .nil
  | d :: ds, _, h => by
    cases h with
    | cons h1 h2 => exact .cons (dp_mono e d _ h1) (dps_mono e ds _ h2)
end
mutual
theorem dq_dp {K : PySem.W.Frag} {H : Hp} : ∀ (d : PyData) (v : V), Dq H v d → Dp K H v d
  | .none, _, h => by cases h; exact .non
  | .bool _, _, h => by cases h; exact .bl _
  | .int _, _, h => by cases h; exact .int _
  | .str _, _, h => by cases h; exact .str _
  | .list ds, _, h => by
    cases h with
    | lst hs ha => exact .lst (SqL.of hs) (dqs_dp ds _ ha)
  | .tuple ds, _, h => by
    cases h with
    | tup hs ha => exact .tup (SqT.of hs) (dqs_dp ds _ ha)
  | .dict _, _, h => by cases h
theorem dqs_dp {K : PySem.W.Frag} {H : Hp} : ∀ (ds : List PyData) (vs : List V), DqAll H vs ds → DpAll K H vs ds
  | [], _, h => by cases h; exact .nil
  | d :: ds, _, h => by
    cases h with
    | cons h1 h2 => exact .cons (dq_dp d _ h1) (dqs_dp ds _ h2)
end
section
variable {H : Hp}
theorem dp_int {v : V} {i : Int} (h : Dq H v (.int i)) : v = .int i := by cases h; rfl
theorem dp_bl {v : V} {b : Bool} (h : Dq H v (.bool b)) : v = .bl b := by cases h; rfl
theorem dp_str {v : V} {x : Str} (h : Dq H v (.str x)) : v = .str x := by cases h; rfl
theorem dp_non {v : V} (h : Dq H v .none) : v = .non := by cases h; rfl
theorem dp_lst {v : V} {ds : List PyData} (h : Dq H v (.list ds)) : ∃ a xs, v = .ref a ∧ H a = some (.lst xs) ∧ DqAll H xs ds := by
  cases h with
  | lst hs ha => exact ⟨_, _, rfl, hs, ha⟩
theorem dp_tup {v : V} {ds : List PyData} (h : Dq H v (.tuple ds)) : ∃ a xs, v = .ref a ∧ H a = some (.tup xs) ∧ DqAll H xs ds := by
  cases h with
  | tup hs ha => exact ⟨_, _, rfl, hs, ha⟩
theorem dps_len : ∀ {ds : List PyData} {vs : List V}, DqAll H vs ds → vs.length = ds.length
  | [], _, h => by cases h; rfl
  | d :: ds, _, h => by
    cases h with
    | cons _ h2 => simp only [List.length_cons, dps_len h2]
theorem dps_get : ∀ {ds : List PyData} {vs : List V} {i : Nat} {d : PyData}, DqAll H vs ds → ds[i]? = some d → ∃ v, vs[i]? = some v ∧ Dq H v d
  | [], _, i, d, h, e => by simp at e
  | d0 :: ds, _, 0, d, h, e => by
    cases h with
    | cons h1 h2 => simp at e; subst e; exact ⟨_, rfl, h1⟩
  | d0 :: ds, _, i + 1, d, h, e => by
    cases h with
    | cons h1 h2 =>
      obtain ⟨v, e1, e2⟩ := dps_get h2 (by simpa using e)
      exact ⟨v, by simpa using e1, e2⟩
theorem dps_getV : ∀ {ds : List PyData} {vs : List V} {i : Nat} {v : V}, DqAll H vs ds → vs[i]? = some v → ∃ d, ds[i]? = some d ∧ Dq H v d
  | [], _, i, d, h, e => by cases h; simp at e
  | d0 :: ds, _, 0, d, h, e => by
    cases h with
    | cons h1 h2 => simp at e; subst e; exact ⟨_, rfl, h1⟩
  | d0 :: ds, _, i + 1, d, h, e => by
    cases h with
    | cons h1 h2 =>
      obtain ⟨v, e1, e2⟩ := dps_getV h2 (by simpa using e)
      exact ⟨v, by simpa using e1, e2⟩
theorem dps_app : ∀ {ds es : List PyData} {vs us : List V}, DqAll H vs ds → DqAll H us es → DqAll H (vs ++ us) (ds ++ es)
  | [], _, _, _, h, h' => by cases h; exact h'
  | d :: ds, _, _, _, h, h' => by
    cases h with
    | cons h1 h2 => exact .cons h1 (dps_app h2 h')
theorem dps_take : ∀ {ds : List PyData} {vs : List V} (n : Nat), DqAll H vs ds → DqAll H (vs.take n) (ds.take n)
  | _, _, 0, _ => .nil
  | [], _, n + 1, h => by cases h; exact .nil
  | d :: ds, _, n + 1, h => by
    cases h with
    | cons h1 h2 => exact .cons h1 (dps_take n h2)
theorem dps_drop : ∀ {ds : List PyData} {vs : List V} (n : Nat), DqAll H vs ds → DqAll H (vs.drop n) (ds.drop n)
  | _, _, 0, h => h
  | [], _, n + 1, h => by cases h; exact .nil
  | d :: ds, _, n + 1, h => by
    cases h with
    | cons h1 h2 => exact dps_drop n h2
theorem dps_set {v : V} {d : PyData} (hd : Dq H v d) : ∀ {ds : List PyData} {vs : List V} (n : Nat), DqAll H vs ds → DqAll H (vs.set n v) (ds.set n d)
  | [], _, n, h => by cases h; exact .nil
  | d0 :: ds, _, 0, h => by
    cases h with
    | cons h1 h2 => exact .cons hd h2
  | d0 :: ds, _, n + 1, h => by
    cases h with
    | cons h1 h2 => exact .cons h1 (dps_set hd n h2)
theorem dps_erase : ∀ {ds : List PyData} {vs : List V} (n : Nat), DqAll H vs ds → DqAll H (vs.eraseIdx n) (ds.eraseIdx n)
  | [], _, n, h => by cases h; exact .nil
  | d0 :: ds, _, 0, h => by
    cases h with
    | cons h1 h2 => exact h2
  | d0 :: ds, _, n + 1, h => by
    cases h with
    | cons h1 h2 => exact .cons h1 (dps_erase n h2)
theorem dps_rev {ds : List PyData} {vs : List V} (h : DqAll H vs ds) : DqAll H vs.reverse ds.reverse := by
  induction ds generalizing vs with
  | nil => cases h; exact .nil
  | cons d ds ih =>
    cases h with
    | cons h1 h2 =>
      rw [List.reverse_cons, List.reverse_cons]
      exact dps_app (ih h2) (.cons h1 .nil)
theorem dps_ints {ns : List Int} {vs : List V} (h : DqAll H vs (ns.map PyData.int)) : vs = ns.map V.int := by
  induction ns generalizing vs with
  | nil => cases h; rfl
  | cons n ns ih =>
    cases h with
    | cons h1 h2 => rw [dp_int h1, ih h2]; rfl
theorem dps_ofInts : ∀ (ns : List Int), DqAll H (ns.map V.int) (ns.map PyData.int)
  | [] => .nil
  | _ :: ns => .cons (.int _) (dps_ofInts ns)
theorem dps_bls {bs : List Bool} {vs : List V} (h : DqAll H vs (bs.map PyData.bool)) : vs = bs.map V.bl := by
  induction bs generalizing vs with
  | nil => cases h; rfl
  | cons n ns ih =>
    cases h with
    | cons h1 h2 => rw [dp_bl h1, ih h2]; rfl
end
def tD (d : PyData) : Ty := ⟨fun S v => Dq S v d, fun e h => dp_mono e d _ h⟩
def tV (v : V) : Ty := ⟨fun _ u => u = v, fun _ h => h⟩
def tAny : Ty := ⟨fun _ _ => True, fun _ h => h⟩

/-- a tuple: never written, so it may settle at any time -/
def isT : HO → Prop
  | .tup _ => True
  | _ => False
/-- growth but for M -/
structure Gr (M : Addr → Prop) (H S H' S' : Hp) : Prop where
  keep : ∀ q o, H q = some o → ¬ M q → H' q = some o
  there : ∀ q, H' q = none → H q = none
  s : Same S S'
  sub : Same S' H'
  new : ∀ q o, S' q = some o → S q = some o ∨ H q = none ∨ isT o
abbrev M0 : Addr → Prop := fun _ => False
abbrev Gr0 := Gr M0
section
variable {M : Addr → Prop} {H S H1 S1 H2 S2 : Hp}
theorem Gr.same (g : Gr0 H S H1 S1) : Same H H1 := fun q o h => g.keep q o h fun z => z
theorem Gr.refl (h : Same S H) : Gr M H S H S := ⟨fun _ _ h _ => h, fun _ h => h, Same.refl S, h, fun _ _ h => .inl h⟩
theorem Gr.trans (a : Gr M H S H1 S1) (b : Gr M H1 S1 H2 S2) : Gr M H S H2 S2 where
  keep := fun q o h n => b.keep q o (a.keep q o h n) n
  there := fun q h => a.there q (b.there q h)
  s := a.s.trans b.s
  sub := b.sub
  new := fun q o h => by
    rcases b.new q o h with h | h | h
    · exact a.new q o h
    · exact .inr (.inl (a.there q h))
    · exact .inr (.inr h)
theorem Gr.weak {M' : Addr → Prop} (a : Gr M H S H1 S1) (h : ∀ q, M q → M' q) : Gr M' H S H1 S1 := ⟨fun q o e n => a.keep q o e fun z => n (h q z), a.there, a.s, a.sub, a.new⟩
theorem Gr.up (a : Gr0 H S H1 S1) : Gr M H S H1 S1 := a.weak fun _ z => z.elim
/-- what was there and is not settled is not settled after -/
theorem Gr.un (a : Gr M H S H1 S1) {q : Addr} {o : HO} (h : H q = some o) (n : S q = none) (nt : ¬ isT o := by exact id) (hm : ¬ M q := by exact id) : S1 q = none := by
  cases e : S1 q with
  | none => rfl
  | some u =>
    rcases a.new q u e with z | z | z
    · rw [n] at z; cases z
    · rw [h] at z; cases z
    · have e1 := a.sub q u e
      rw [a.keep q o h hm] at e1
      cases e1
      exact (nt z).elim
theorem same_none {H H1 : Hp} (e : Same H H1) {q : Addr} (h : H1 q = none) : H q = none := e.free h
theorem same_upd {H : Hp} {p : Addr} {o : HO} (h : H p = none) : Same H (upd H p o) := fun b x e => by
  rw [upd_ne (ne_of_none e h)]; exact e
theorem same_upds {S H : Hp} {p : Addr} {o : HO} (e : Same S H) : Same (upd S p o) (upd H p o) := fun b x h => by
  by_cases c : b = p
  · subst c; rw [upd_same] at h ⊢; exact h
  · rw [upd_ne c] at h ⊢; exact e b x h
/-- a new object, not settled -/
theorem Gr.alloc (sub : Same S H) {p : Addr} {o : HO} (h : H p = none) : Gr M H S (upd H p o) S :=
  ⟨fun q u e _ => same_upd h q u e, fun q e => same_none (same_upd h) e, Same.refl S, sub.trans (same_upd h), fun _ _ e => .inl e⟩
/-- a new object, settled -/
theorem Gr.allocS (sub : Same S H) {p : Addr} {o : HO} (h : H p = none) : Gr M H S (upd H p o) (upd S p o) :=
  ⟨fun q u e _ => same_upd h q u e, fun q e => same_none (same_upd h) e, same_upd (same_none sub h), same_upds sub, fun q u e => by
    by_cases c : q = p
    · subst c; exact .inr (.inl h)
    · rw [upd_ne c] at e; exact .inl e⟩
/-- an object that stands is settled -/
theorem Gr.settle (sub : Same S H1) {p : Addr} {o : HO} (h : H1 p = some o) (n : S p = none) : Same S (upd S p o) ∧ Same (upd S p o) H1 :=
  ⟨same_upd n, fun q u e => by
    by_cases c : q = p
    · subst c; rw [upd_same] at e; rw [h]; exact e
    · rw [upd_ne c] at e; exact sub q u e⟩
end

/-- what is not settled and belongs to one: the objects at dom -/
structure Cell where
  dom : Addr → Prop
  ok : Hp → Hp → Prop
  mono : ∀ {S S' H H' : Hp}, Same S S' → (∀ q o, dom q → H q = some o → H' q = some o) → ok S H → ok S' H'
  /-- may it be written -/
  w : Bool
/-- seen only -/
def Cell.ro (c : Cell) : Cell := ⟨c.dom, c.ok, c.mono, false⟩
/-- what is known of one object -/
structure P1 where
  P : Hp → HO → Prop
  nt : ∀ {S : Hp} {o : HO}, P S o → ¬ isT o
  mono : ∀ {S S' : Hp} {o : HO}, Same S S' → P S o → P S' o
/-- one object -/
def c1 (p : Addr) (X : P1) : Cell := ⟨fun q => q = p, fun S H => ∃ o, H p = some o ∧ X.P S o, fun e h ⟨o, h1, h2⟩ => ⟨o, h _ _ rfl h1, X.mono e h2⟩, true⟩
def pL (ds : List PyData) : P1 := ⟨fun S o => ∃ vs, o = .lst vs ∧ DqAll S vs ds, fun ⟨vs, h, _⟩ => h ▸ id, fun e ⟨vs, h1, h2⟩ => ⟨vs, h1, dps_mono e ds vs h2⟩⟩
/-- a list of data -/
abbrev cL (p : Addr) (ds : List PyData) : Cell := c1 p (pL ds)
abbrev Apart (a b : Cell) : Prop := ∀ q, a.dom q → ¬ b.dom q
structure CellsOk (C : List Cell) (H S : Hp) : Prop where
  at_ : ∀ c ∈ C, c.ok S H ∧ ∀ q, c.dom q → S q = none ∧ ∃ o, H q = some o ∧ ¬ isT o
  nd : C.Pairwise Apart
theorem CellsOk.nil {H S : Hp} : CellsOk [] H S := ⟨fun _ h => (nomatch h), .nil⟩
theorem CellsOk.grow {C : List Cell} {H S H1 S1 : Hp} (c : CellsOk C H S) (g : Gr0 H S H1 S1) : CellsOk C H1 S1 :=
  ⟨fun x hx => by
    obtain ⟨h1, h2⟩ := c.at_ x hx
    refine ⟨x.mono g.s (fun q o _ e => g.same _ _ e) h1, fun q hq => ?_⟩
    obtain ⟨e1, o, e2, nt⟩ := h2 q hq
    exact ⟨g.un e2 e1 nt, o, g.same _ _ e2, nt⟩, c.nd⟩
theorem CellsOk.cons {C : List Cell} {c : Cell} {H S : Hp} (k : CellsOk C H S) (h1 : c.ok S H) (h2 : ∀ q, c.dom q → S q = none ∧ ∃ o, H q = some o ∧ ¬ isT o) (hn : ∀ x ∈ C, Apart c x) : CellsOk (c :: C) H S :=
  ⟨fun x hx => by
    rcases List.mem_cons.mp hx with e | hx
    · subst e; exact ⟨h1, h2⟩
    · exact k.at_ x hx, List.pairwise_cons.mpr ⟨hn, k.nd⟩⟩
theorem CellsOk.apart_new {C : List Cell} {c : Cell} {H S : Hp} (k : CellsOk C H S) (hp : ∀ q, c.dom q → H q = none) : ∀ x ∈ C, Apart c x := fun x hx q h1 h2 => by
  obtain ⟨_, h⟩ := k.at_ x hx
  obtain ⟨_, o, e, _⟩ := h q h2
  rw [hp q h1] at e; cases e
theorem CellsOk.new {C : List Cell} {c : Cell} {H S H1 S1 : Hp} (k : CellsOk C H S) (g : Gr0 H S H1 S1) (hp : ∀ q, c.dom q → H q = none) (h1 : c.ok S1 H1) (h2 : ∀ q, c.dom q → S1 q = none ∧ ∃ o, H1 q = some o ∧ ¬ isT o) : CellsOk (c :: C) H1 S1 :=
  (k.grow g).cons h1 h2 (k.apart_new hp)
theorem CellsOk.tail {C : List Cell} {c : Cell} {H S : Hp} (k : CellsOk (c :: C) H S) : CellsOk C H S :=
  ⟨fun x hx => k.at_ x (List.mem_cons_of_mem _ hx), (List.pairwise_cons.mp k.nd).2⟩
theorem CellsOk.head {C : List Cell} {c : Cell} {H S : Hp} (k : CellsOk (c :: C) H S) : c.ok S H ∧ ∀ q, c.dom q → S q = none ∧ ∃ o, H q = some o ∧ ¬ isT o := k.at_ c List.mem_cons_self
theorem CellsOk.ne {C : List Cell} {c : Cell} {H S : Hp} (k : CellsOk (c :: C) H S) : ∀ x ∈ C, Apart c x := (List.pairwise_cons.mp k.nd).1
theorem Apart.symm {a b : Cell} (h : Apart a b) : Apart b a := fun q h1 h2 => h q h2 h1
theorem CellsOk.perm {C C' : List Cell} {H S : Hp} (k : CellsOk C H S) (h : C.Perm C') : CellsOk C' H S :=
  ⟨fun x hx => k.at_ x (h.mem_iff.mpr hx), (h.pairwise_iff fun z => Apart.symm z).mp k.nd⟩
/-- the head cell changes -/
theorem CellsOk.swap {C : List Cell} {c c' : Cell} {H H' S : Hp} (k : CellsOk (c :: C) H S) (sub : Same S H) (hd : ∀ q, c'.dom q → c.dom q ∨ H q = none) (hk : ∀ q o, ¬ c.dom q → H q = some o → H' q = some o) (hp : ∀ q, c'.dom q → ∃ o, H' q = some o ∧ ¬ isT o) (h : c'.ok S H') : CellsOk (c' :: C) H' S := by
  have kt : CellsOk C H' S := ⟨fun x hx => by
    obtain ⟨h1, h2⟩ := k.tail.at_ x hx
    have ap := k.ne x hx
    refine ⟨x.mono (Same.refl S) (fun q o hq e => hk q o (fun z => ap q z hq) e) h1, fun q hq => ?_⟩
    obtain ⟨e1, o, e2, nt⟩ := h2 q hq
    exact ⟨e1, o, hk q o (fun z => ap q z hq) e2, nt⟩, k.tail.nd⟩
  refine kt.cons h (fun q hq => ⟨?_, hp q hq⟩) fun x hx q h1 h2 => ?_
  · rcases hd q hq with z | z
    · exact (k.head.2 q z).1
    · exact same_none sub z
  · rcases hd q h1 with z | z
    · exact k.ne x hx q z h2
    · obtain ⟨_, o, e, _⟩ := (k.tail.at_ x hx).2 q h2
      rw [z] at e; cases e

/-- a def's frame: what it may write, where it began -/
structure Fr0 where
  M : Addr → Prop
  H : Hp
  S : Hp
abbrev Sl := Option Ty
structure Stt (F : Fr0) (Γ : List Sl) (C : List Cell) (σ : St) (H S : Hp) : Prop where
  g : Gr F.M F.H F.S H S
  len : Γ.length = σ.length
  sl : ∀ (i : Nat) (T : Ty), Γ[i]? = some (some T) → ∃ v, σ[i]? = some (some v) ∧ T.ok S v
  cl : CellsOk C H S
  can : ∀ c ∈ C, c.w = true → ∀ q, c.dom q → F.M q ∨ F.H q = none
section
variable {F : Fr0} {Γ Γ' : List Sl} {C C' : List Cell} {c : Cell} {σ : St} {H S H1 S1 : Hp}
theorem Stt.sub (s : Stt F Γ C σ H S) : Same S H := s.g.sub
theorem Stt.grow (s : Stt F Γ C σ H S) (g : Gr0 H S H1 S1) : Stt F Γ C σ H1 S1 :=
  ⟨s.g.trans g.up, s.len, fun i T h => let ⟨v, e, k⟩ := s.sl i T h; ⟨v, e, T.mono g.s k⟩, s.cl.grow g, s.can⟩
theorem Stt.set (s : Stt F Γ C σ H S) {i : Nat} {v : V} {T : Ty} (h : T.ok S v) : Stt F (Γ.set i (some T)) C (σ.set i (some v)) H S :=
  ⟨s.g, by simpa using s.len, fun j U e => by
    by_cases hj : i = j
    · subst hj
      by_cases hl : i < Γ.length
      · rw [List.getElem?_set_self hl] at e
        cases e
        exact ⟨v, List.getElem?_set_self (by rw [← s.len]; exact hl), h⟩
      · rw [List.getElem?_eq_none (by simpa using hl)] at e; cases e
    · rw [List.getElem?_set_ne hj] at e ⊢
      exact s.sl j U e, s.cl, s.can⟩
def leG : List Sl → List Sl → Prop
  | [], [] => True
  | a :: r, b :: t => (b = none ∨ a = b) ∧ leG r t
  | _, _ => False
theorem leG.refl : ∀ {Γ : List Sl}, leG Γ Γ
  | [] => trivial
  | _ :: _ => ⟨.inr rfl, leG.refl⟩
theorem leG.len : ∀ {Γ Γ' : List Sl}, leG Γ Γ' → Γ.length = Γ'.length
  | [], [], _ => rfl
  | a :: r, b :: t, h => by simp only [List.length_cons, leG.len h.2]
  | [], _ :: _, h => h.elim
  | _ :: _, [], h => h.elim
theorem leG.get : ∀ {Γ Γ' : List Sl} {i : Nat} {T : Ty}, leG Γ Γ' → Γ'[i]? = some (some T) → Γ[i]? = some (some T)
  | [], [], _, _, _, e => by simp at e
  | a :: r, b :: t, 0, T, h, e => by
    rcases h.1 with q | q
    · subst q; simp at e
    · subst q; exact e
  | a :: r, b :: t, i + 1, T, h, e => by
    simp at e ⊢
    exact leG.get h.2 e
  | [], _ :: _, _, _, h, _ => h.elim
  | _ :: _, [], _, _, h, _ => h.elim
theorem Stt.weak (s : Stt F Γ C σ H S) (h : leG Γ Γ') : Stt F Γ' C σ H S :=
  ⟨s.g, h.len ▸ s.len, fun i T e => s.sl i T (h.get e), s.cl, s.can⟩
theorem Stt.perm (s : Stt F Γ C σ H S) (h : C.Perm C') : Stt F Γ C' σ H S :=
  ⟨s.g, s.len, s.sl, s.cl.perm h, fun c hc => s.can c (h.mem_iff.mpr hc)⟩
/-- a new cell -/
theorem Stt.newC (s : Stt F Γ C σ H S) {c : Cell} (g : Gr0 H S H1 S1) (hp : ∀ q, c.dom q → H q = none) (h1 : c.ok S1 H1) (h2 : ∀ q, c.dom q → S1 q = none ∧ ∃ o, H1 q = some o ∧ ¬ isT o) : Stt F Γ (c :: C) σ H1 S1 :=
  ⟨s.g.trans g.up, s.len, (s.grow g).sl, s.cl.new g hp h1 h2, fun x hx => by
    rcases List.mem_cons.mp hx with e | hx
    · subst e; exact fun _ q hq => .inr (s.g.there _ (hp q hq))
    · exact s.can x hx⟩
theorem Stt.new (s : Stt F Γ C σ H S) {p : Addr} {X : P1} {o : HO} (g : Gr0 H S H1 S1) (hp : H p = none) (h1 : H1 p = some o) (h2 : S1 p = none) (h3 : X.P S1 o) : Stt F Γ (c1 p X :: C) σ H1 S1 :=
  s.newC (c := c1 p X) g (fun q e => by subst e; exact hp) ⟨o, h1, h3⟩ fun q e => by subst e; exact ⟨h2, o, h1, X.nt h3⟩
/-- the head cell changes -/
theorem Stt.swap {H' : Hp} (s : Stt F Γ (c :: C) σ H S) {c' : Cell} (hd : ∀ q, c'.dom q → c.dom q ∨ H q = none) (hk : ∀ q o, ¬ c.dom q → H q = some o → H' q = some o) (ht : ∀ q, H' q = none → H q = none) (hp : ∀ q, c'.dom q → ∃ o, H' q = some o ∧ ¬ isT o) (h : c'.ok S H') (hw : c.w = true) : Stt F Γ (c' :: C) σ H' S := by
  have hc := s.can c List.mem_cons_self hw
  have hS := s.cl.head.2
  refine ⟨⟨fun q x hq n => ?_, fun q hq => s.g.there q (ht q hq), s.g.s, fun q x hq => ?_, s.g.new⟩, s.len, s.sl, s.cl.swap s.sub hd hk hp h, fun x hx => ?_⟩
  · refine hk q x (fun z => ?_) (s.g.keep q x hq n)
    rcases hc q z with z | z
    · exact n z
    · rw [hq] at z; cases z
  · exact hk q x (fun z => by rw [(hS q z).1] at hq; cases hq) (s.sub q x hq)
  · rcases List.mem_cons.mp hx with z | hx
    · subst z
      intro _ q hq
      rcases hd q hq with z | z
      · exact hc q z
      · exact .inr (s.g.there q z)
    · exact s.can x (List.mem_cons_of_mem _ hx)
/-- the head cell written -/
theorem Stt.write {p : Addr} {X X' : P1} (s : Stt F Γ (c1 p X :: C) σ H S) {o : HO} (h : X'.P S o) : Stt F Γ (c1 p X' :: C) σ (upd H p o) S :=
  s.swap (c' := c1 p X') (fun q e => .inl e) (fun q x n e => by
    have nq : q ≠ p := n
    rw [upd_ne nq]; exact e) (fun q e => by
    by_cases z : q = p
    · subst z; rw [upd_same] at e; cases e
    · rw [upd_ne z] at e; exact e) (fun q e => by
    have e : q = p := e
    subst e; exact ⟨o, upd_same, X'.nt h⟩) ⟨o, upd_same, h⟩ rfl
theorem Stt.drop (s : Stt F Γ (c :: C) σ H S) : Stt F Γ C σ H S := ⟨s.g, s.len, s.sl, s.cl.tail, fun x hx => s.can x (List.mem_cons_of_mem _ hx)⟩
/-- the head cell settles: only what is the def's own -/
theorem Stt.settle {p : Addr} {X : P1} (s : Stt F Γ (c1 p X :: C) σ H S) (hn : F.H p = none) : ∃ o, H p = some o ∧ X.P S o ∧ S p = none ∧ Stt F Γ C σ H (upd S p o) := by
  obtain ⟨⟨o, q1, q3⟩, q0⟩ := s.cl.head
  have q2 := (q0 p rfl).1
  obtain ⟨e1, e2⟩ := Gr.settle s.sub q1 q2
  refine ⟨o, q1, q3, q2, ⟨s.g.keep, s.g.there, s.g.s.trans e1, e2, fun q u e => ?_⟩, s.len, fun i T h => let ⟨v, a, b⟩ := s.sl i T h; ⟨v, a, T.mono e1 b⟩, ⟨fun x hx => ?_, s.cl.tail.nd⟩, fun x hx => s.can x (List.mem_cons_of_mem _ hx)⟩
  · by_cases z : q = p
    · subst z; exact .inr (.inl hn)
    · rw [upd_ne z] at e; exact s.g.new q u e
  · obtain ⟨h1, h2⟩ := s.cl.tail.at_ x hx
    refine ⟨x.mono e1 (fun _ _ _ e => e) h1, fun q hq => ?_⟩
    obtain ⟨e3, e4⟩ := h2 q hq
    refine ⟨?_, e4⟩
    rw [upd_ne fun z => s.cl.ne x hx q z hq]
    exact e3
/-- a cell of one object -/
theorem CellsOk.one {p : Addr} {X : P1} (k : CellsOk C H S) (h : c1 p X ∈ C) : ∃ o, H p = some o ∧ S p = none ∧ X.P S o := by
  obtain ⟨⟨o, h1, h2⟩, h3⟩ := k.at_ _ h
  exact ⟨o, h1, (h3 p rfl).1, h2⟩
end
/-- the view: settled, or the whole -/
def vw (m : Bool) (H S : Hp) : Hp := match m with
  | true => S
  | false => H
theorem vw_same {m : Bool} {H S H1 S1 : Hp} (g : Gr0 H S H1 S1) : Same (vw m H S) (vw m H1 S1) := by
  cases m with
  | true => exact g.s
  | false => exact g.same
theorem vw_sub {m : Bool} {H S : Hp} (h : Same S H) : Same (vw m H S) H := by
  cases m with
  | true => exact h
  | false => exact Same.refl H
end Sw
/-! readings judged over data -/
namespace Sw
open PySem L2

abbrev tI (i : Int) : Ty := tD (.int i)
abbrev tBo (b : Bool) : Ty := tD (.bool b)
abbrev tSt (x : Str) : Ty := tD (.str x)
abbrev tN : Ty := tD .none
abbrev tLs (ds : List PyData) : Ty := tD (.list ds)
abbrev tTp (ds : List PyData) : Ty := tD (.tuple ds)

def Tys (S : Hp) : List Ty → List V → Prop
  | [], [] => True
  | T :: Ts, v :: vs => T.ok S v ∧ Tys S Ts vs
  | _, _ => False
theorem Tys.mono {S S' : Hp} (e : Same S S') : ∀ {Ts : List Ty} {vs : List V}, Tys S Ts vs → Tys S' Ts vs
  | [], [], _ => trivial
  | T :: _, _ :: _, h => ⟨T.mono e h.1, Tys.mono e h.2⟩
  | [], _ :: _, h => h.elim
  | _ :: _, [], h => h.elim
theorem Tys.len {S : Hp} : ∀ {Ts : List Ty} {vs : List V}, Tys S Ts vs → vs.length = Ts.length
  | [], [], _ => rfl
  | _ :: _, _ :: _, h => by simp only [List.length_cons, Tys.len h.2]
  | [], _ :: _, h => h.elim
  | _ :: _, [], h => h.elim
theorem Tys.get {S : Hp} : ∀ {Ts : List Ty} {vs : List V} {i : Nat} {T : Ty}, Tys S Ts vs → Ts[i]? = some T → ∃ v, vs[i]? = some v ∧ T.ok S v
  | T0 :: _, v :: _, 0, T, h, e => by simp at e; subst e; exact ⟨v, rfl, h.1⟩
  | _ :: _, _ :: _, i + 1, T, h, e => by simp at e ⊢; exact Tys.get h.2 e
  | [], [], _, _, _, e => by simp at e
  | [], _ :: _, _, _, h, _ => h.elim
  | _ :: _, [], _, _, h, _ => h.elim
theorem Tys.data {S : Hp} : ∀ {ds : List PyData} {vs : List V}, Tys S (ds.map (tD)) vs → DqAll S vs ds
  | [], [], _ => .nil
  | _ :: _, _ :: _, h => .cons h.1 (Tys.data h.2)
  | [], _ :: _, h => h.elim
  | _ :: _, [], h => h.elim

def SE (m : Bool) (te : TE) (Γ : List Sl) (C : List Cell) (T : Ty) : Prop := ∀ (F : Fr0) (σ : L2.St) (H S : Hp), Stt F Γ C σ H S → ∀ Q : VK, (∀ v H' S', Gr0 H S H' S' → T.ok (vw m H' S') v → Q v H') → te σ H Q
def ST (tt : TT) (Γ : List Sl) (C : List Cell) (b : Bool) : Prop := ∀ (F : Fr0) (σ : L2.St) (H S : Hp), Stt F Γ C σ H S → ∀ Q : Bool → Hp → Prop, (∀ H' S', Gr0 H S H' S' → Q b H') → tt σ H Q
def SA (m : Bool) (ta : TA) (Γ : List Sl) (C : List Cell) (Ts : List Ty) : Prop := ∀ (F : Fr0) (σ : L2.St) (H S : Hp), Stt F Γ C σ H S → ∀ Q : List V → Hp → Prop, (∀ vs H' S', Gr0 H S H' S' → Tys (vw m H' S') Ts vs → Q vs H') → ta σ H Q
/-- a new list, not settled; its items are -/
def SO (te : TE) (Γ : List Sl) (C : List Cell) (ds : List PyData) : Prop := ∀ (F : Fr0) (σ : L2.St) (H S : Hp), Stt F Γ C σ H S → ∀ Q : VK,
  (∀ p vs H' S', Gr0 H S H' S' → H p = none → H' p = some (.lst vs) → S' p = none → DqAll S' vs ds → Q (.ref p) H') → te σ H Q
/-- a part of a slice -/
def SP (to : TO) (Γ : List Sl) (C : List Cell) (o : Option Int) : Prop := ∀ (F : Fr0) (σ : L2.St) (H S : Hp), Stt F Γ C σ H S → ∀ Q : Option Int → Hp → Prop, (∀ H' S', Gr0 H S H' S' → Q o H') → to σ H Q
/-- an operation of two values; of one; of a list of values -/
def R2k (m : Bool) (r : R2) (Tx Ty' T : Ty) : Prop := ∀ (x y : V) (H S : Hp), Same S H → Tx.ok (vw m H S) x → Ty'.ok (vw m H S) y → ∀ Q : VK, (∀ z H' S', Gr0 H S H' S' → T.ok (vw m H' S') z → Q z H') → r x y H Q
def R1k (m : Bool) (r : V → Hp → VK → Prop) (Tx T : Ty) : Prop := ∀ (x : V) (H S : Hp), Same S H → Tx.ok (vw m H S) x → ∀ Q : VK, (∀ z H' S', Gr0 H S H' S' → T.ok (vw m H' S') z → Q z H') → r x H Q
def RCk (m : Bool) (r : List V → Hp → VK → Prop) (Ts : List Ty) (T : Ty) : Prop := ∀ (vs : List V) (H S : Hp), Same S H → Tys (vw m H S) Ts vs → ∀ Q : VK, (∀ z H' S', Gr0 H S H' S' → T.ok (vw m H' S') z → Q z H') → r vs H Q
def RCo (m : Bool) (r : List V → Hp → VK → Prop) (Ts : List Ty) (ds : List PyData) : Prop := ∀ (vs : List V) (H S : Hp), Same S H → Tys (vw m H S) Ts vs → ∀ Q : VK,
  (∀ p us H' S', Gr0 H S H' S' → H p = none → H' p = some (.lst us) → S' p = none → DqAll S' us ds → Q (.ref p) H') → r vs H Q
/-- does not lean on the heap -/
def Atom (T : Ty) : Prop := ∀ S S' v, T.ok S v → T.ok S' v

section
variable {K : PySem.W.Frag} {m : Bool} {Γ Γ' : List Sl} {C : List Cell} {ta tb te tx : TE} {t u : TT} {T Tx Tz T1 T2 : Ty} {r : R2} {F : Fr0} {b : Bool}
theorem atom_int {i : Int} : Atom (tI i) := fun _ _ _ h => by rw [dp_int h]; exact .int i
theorem atom_bl {b : Bool} : Atom (tBo b) := fun _ _ _ h => by rw [dp_bl h]; exact .bl b
theorem atom_str {x : Str} : Atom (tSt x) := fun _ _ _ h => by rw [dp_str h]; exact .str x
theorem atom_non : Atom (tN) := fun _ _ _ h => by rw [dp_non h]; exact .non
theorem atom_v {v : V} : Atom (tV v) := fun _ _ _ h => h
theorem e_atom {m' : Bool} (h : SE m' te Γ C T) (ha : Atom T) : SE m te Γ C T := fun F σ H S s Q q => h F σ H S s Q fun v H' S' g k => q v H' S' g (ha _ _ _ k)
theorem e_view (h : SE true te Γ C T) : SE m te Γ C T := fun F σ H S s Q q => h F σ H S s Q fun v H' S' g k => q v H' S' g (by
  cases m with
  | true => exact k
  | false => exact T.mono g.sub k)
theorem e_is {T' : Ty} (h : SE m te Γ C T) (e : T = T') : SE m te Γ C T' := e ▸ h
theorem e_var {i : Nat} (h : Γ[i]? = some (some T)) : SE m (tVar i) Γ C T := fun F σ H S s Q q => by
  obtain ⟨v, e, k⟩ := s.sl i T h
  refine ⟨v, e, q v H S (Gr.refl s.sub) ?_⟩
  cases m with
  | true => exact k
  | false => exact T.mono s.sub k
/-- an own list seen as data -/
theorem e_own {i : Nat} {p : Addr} {ds : List PyData} (h : Γ[i]? = some (some (tV (.ref p)))) (hc : cL p ds ∈ C) : SE false (tVar i) Γ C (tLs ds) := fun F σ H S s Q q => by
  obtain ⟨v, e, k⟩ := s.sl i _ h
  obtain ⟨o, h1, h2, vs, rfl, h3⟩ := s.cl.one hc
  have k : v = .ref p := k
  subst k
  exact ⟨_, e, q _ H S (Gr.refl s.sub) (.lst h1 (dps_mono s.sub _ _ h3))⟩
theorem e_int {i : Int} : SE m (tC (.int i)) Γ C (tI i) := fun _ _ H S s _ q => q _ H S (Gr.refl s.sub) (.int i)
theorem e_bl {b : Bool} : SE m (tC (.bl b)) Γ C (tBo b) := fun _ _ H S s _ q => q _ H S (Gr.refl s.sub) (.bl b)
theorem e_str {x : Str} : SE m (tC (.str x)) Γ C (tSt x) := fun _ _ H S s _ q => q _ H S (Gr.refl s.sub) (.str x)
theorem e_non : SE m (tC .non) Γ C (tN) := fun _ _ H S s _ q => q _ H S (Gr.refl s.sub) .non
theorem e_op (ha : SE m ta Γ C Tx) (hb : SE m tb Γ C Tz) (hr : R2k m r Tx Tz T) : SE m (tOp r ta tb) Γ C T := fun F σ H S s Q q =>
  ha F σ H S s _ fun x H1 S1 g1 k1 => hb F σ H1 S1 (s.grow g1) _ fun y H2 S2 g2 k2 => hr x y H2 S2 g2.sub (Tx.mono (vw_same g2) k1) k2 Q fun z H3 S3 g3 k3 => q z H3 S3 ((g1.trans g2).trans g3) k3
theorem e_un {r : V → Hp → VK → Prop} (ha : SE m ta Γ C Tx) (hr : R1k m r Tx T) : SE m (tUn r ta) Γ C T := fun F σ H S s Q q =>
  ha F σ H S s _ fun x H1 S1 g1 k1 => hr x H1 S1 g1.sub k1 Q fun z H3 S3 g3 k3 => q z H3 S3 (g1.trans g3) k3
theorem r_I0 {g : Int → Int → Int} {i j : Int} : R2k m (rI0 fun i j => .int (g i j)) (tI i) (tI j) (tI (g i j)) := fun x y H S s hx hy Q q => by
  rw [dp_int hx, dp_int hy]; exact ⟨i, j, rfl, rfl, q _ H S (Gr.refl s) (.int _)⟩
theorem r_B0 {g : Int → Int → Bool} {i j : Int} : R2k m (rI0 fun i j => .bl (g i j)) (tI i) (tI j) (tBo (g i j)) := fun x y H S s hx hy Q q => by
  rw [dp_int hx, dp_int hy]; exact ⟨i, j, rfl, rfl, q _ H S (Gr.refl s) (.bl _)⟩
theorem r_I {Cn : Int → Int → Prop} {g : Int → Int → Int} {i j : Int} (hc : Cn i j) : R2k m (rI Cn fun i j => .int (g i j)) (tI i) (tI j) (tI (g i j)) := fun x y H S s hx hy Q q => by
  rw [dp_int hx, dp_int hy]; exact ⟨i, j, rfl, rfl, hc, q _ H S (Gr.refl s) (.int _)⟩
theorem r_neg {i : Int} : R1k m (rU fun i => .int (-i)) (tI i) (tI (-i)) := fun x H S s hx Q q => by
  rw [dp_int hx]; exact ⟨i, rfl, q _ H S (Gr.refl s) (.int _)⟩
/-- the scalars' == -/
def atv : PyData → Option V
  | .none => some .non
  | .bool b => some (.bl b)
  | .int i => some (.int i)
  | .str x => some (.str x)
  | _ => none
theorem atv_dp {S : Hp} {d : PyData} {v w : V} (h : Dq S v d) (e : atv d = some w) : v = w := by
  cases h <;> simp [atv] at e <;> exact e
theorem r_eq {d d' : PyData} {v v' : V} (e : atv d = some v) (e' : atv d' = some v') (hs : scal v v' = true) : R2k m rEq (tD d) (tD d') (tBo (decide (v = v'))) := fun x y H S s hx hy Q q => by
  rw [atv_dp hx e, atv_dp hy e']; exact ⟨hs, q _ H S (Gr.refl s) (.bl _)⟩
theorem r_ne {d d' : PyData} {v v' : V} (e : atv d = some v) (e' : atv d' = some v') (hs : scal v v' = true) : R2k m rNe (tD d) (tD d') (tBo (!decide (v = v'))) := fun x y H S s hx hy Q q => by
  rw [atv_dp hx e, atv_dp hy e']; exact ⟨hs, q _ H S (Gr.refl s) (.bl _)⟩
theorem r_eqI {i j : Int} : R2k m rEq (tI i) (tI j) (tBo (decide (i = j))) := by
  have h := r_eq (m := m) (d := .int i) (d' := .int j) rfl rfl rfl
  rwa [show decide (V.int i = V.int j) = decide (i = j) by simp] at h
theorem r_neI {i j : Int} : R2k m rNe (tI i) (tI j) (tBo (!decide (i = j))) := by
  have h := r_ne (m := m) (d := .int i) (d' := .int j) rfl rfl rfl
  rwa [show decide (V.int i = V.int j) = decide (i = j) by simp] at h
theorem r_eqS {i j : Str} : R2k m rEq (tSt i) (tSt j) (tBo (decide (i = j))) := by
  have h := r_eq (m := m) (d := .str i) (d' := .str j) rfl rfl rfl
  rwa [show decide (V.str i = V.str j) = decide (i = j) by simp] at h
theorem r_neS {i j : Str} : R2k m rNe (tSt i) (tSt j) (tBo (!decide (i = j))) := by
  have h := r_ne (m := m) (d := .str i) (d' := .str j) rfl rfl rfl
  rwa [show decide (V.str i = V.str j) = decide (i = j) by simp] at h
theorem r_eqB {i j : Bool} : R2k m rEq (tBo i) (tBo j) (tBo (i == j)) := by
  have h := r_eq (m := m) (d := .bool i) (d' := .bool j) rfl rfl rfl
  rwa [show decide (V.bl i = V.bl j) = (i == j) by simp; cases i <;> cases j <;> rfl] at h
theorem r_neB {i j : Bool} : R2k m rNe (tBo i) (tBo j) (tBo (i != j)) := by
  have h := r_ne (m := m) (d := .bool i) (d' := .bool j) rfl rfl rfl
  rwa [show (!decide (V.bl i = V.bl j)) = (i != j) by cases i <;> cases j <;> rfl] at h
theorem r_eqD {d d' : PyData} (h : SeqAt.shaped d = true) (h' : SeqAt.shaped d' = true) : R2k m (rEqD K) (tD d) (tD d') (tBo (PyData.eqv d d')) := fun x y H S s hx hy Q q =>
  ⟨d, d', dq_dp _ _ (dp_mono (vw_sub s) _ _ hx), dq_dp _ _ (dp_mono (vw_sub s) _ _ hy), h, h', q _ H S (Gr.refl s) (.bl _)⟩
theorem r_neD {d d' : PyData} (h : SeqAt.shaped d = true) (h' : SeqAt.shaped d' = true) : R2k m (rNeD K) (tD d) (tD d') (tBo (!PyData.eqv d d')) := fun x y H S s hx hy Q q =>
  ⟨d, d', dq_dp _ _ (dp_mono (vw_sub s) _ _ hx), dq_dp _ _ (dp_mono (vw_sub s) _ _ hy), h, h', q _ H S (Gr.refl s) (.bl _)⟩
theorem dps_atI {H : Hp} {ds : List PyData} {vs : List V} {i : Int} {d : PyData} (h : DqAll H vs ds) (e : atI ds i = some d) : ∃ v, atI vs i = some v ∧ Dq H v d := by
  unfold atI at e ⊢
  rw [dps_len h]
  cases hn : ixN ds.length i with
  | none => rw [hn] at e; cases e
  | some j =>
    rw [hn] at e
    exact dps_get h (by simpa using e)
theorem r_ixL {ds : List PyData} {i : Int} {d : PyData} (e : atI ds i = some d) : R2k m (rIxL K) (tLs ds) (tI i) (tD d) := fun x y H S s hx hy Q q => by
  obtain ⟨a, xs, rfl, h1, h2⟩ := dp_lst hx
  obtain ⟨v, e1, e2⟩ := dps_atI h2 e
  rw [dp_int hy]
  exact ⟨a, xs, i, v, rfl, rfl, SqL.of (vw_sub s _ _ h1), e1, q v H S (Gr.refl s) e2⟩
theorem r_ixT {ds : List PyData} {i : Int} {d : PyData} (e : atI ds i = some d) : R2k m (rIxT K) (tTp ds) (tI i) (tD d) := fun x y H S s hx hy Q q => by
  obtain ⟨a, xs, rfl, h1, h2⟩ := dp_tup hx
  obtain ⟨v, e1, e2⟩ := dps_atI h2 e
  rw [dp_int hy]
  exact ⟨a, xs, i, v, rfl, rfl, SqT.of (vw_sub s _ _ h1), e1, q v H S (Gr.refl s) e2⟩
/-- an item of an own list is settled -/
theorem e_ixO {i : Nat} {p : Addr} {ds : List PyData} {k : Int} {d : PyData} (h : Γ[i]? = some (some (tV (.ref p)))) (hc : cL p ds ∈ C) (hb : SE m tb Γ C (tI k)) (e : atI ds k = some d) : SE m (tOp (rIxL K) (tVar i) tb) Γ C (tD d) := fun F σ H S s Q q => by
  obtain ⟨v, ev, kv⟩ := s.sl i _ h
  have kv : v = .ref p := kv
  subst kv
  refine ⟨_, ev, hb F σ H S s _ fun y H1 S1 g1 ky => ?_⟩
  obtain ⟨o, h1, h2, vs, rfl, h3⟩ := (s.grow g1).cl.one hc
  obtain ⟨v, e1, e2⟩ := dps_atI h3 e
  rw [dp_int ky]
  refine ⟨p, vs, k, v, rfl, rfl, SqL.of h1, e1, q v H1 S1 g1 ?_⟩
  cases m with
  | true => exact e2
  | false => exact dp_mono g1.sub _ _ e2
/-- flat items' in -/
def atvs : List PyData → Option (List V)
  | [] => some []
  | d :: ds => match atv d, atvs ds with
    | some v, some vs => some (v :: vs)
    | _, _ => none
theorem atvs_dp {S : Hp} : ∀ {ds : List PyData} {vs ws : List V}, DqAll S vs ds → atvs ds = some ws → vs = ws
  | [], _, _, h, e => by cases h; simp [atvs] at e; exact e.symm
  | d :: ds, _, ws, h, e => by
    cases h with
    | cons h1 h2 =>
      unfold atvs at e
      split at e
      · rename_i v vs e1 e2
        cases e
        rw [atv_dp h1 e1, atvs_dp h2 e2]
      · cases e
theorem r_inL {d : PyData} {ds : List PyData} {v : V} {ws : List V} {neg : Bool} (e : atv d = some v) (e' : atvs ds = some ws) (h1 : flatV v = true) (h2 : ws.all flatV = true) : R2k m (rIn K neg) (tD d) (tLs ds) (tBo (if neg then !inV v ws else inV v ws)) := fun x y H S s hx hy Q q => by
  obtain ⟨a, xs, rfl, g1, g2⟩ := dp_lst hy
  rw [atv_dp hx e]
  have e2 := atvs_dp g2 e'
  subst e2
  exact ⟨a, xs, rfl, .inl (SqL.of (vw_sub s _ _ g1)), h1, h2, q _ H S (Gr.refl s) (.bl _)⟩
theorem r_inT {d : PyData} {ds : List PyData} {v : V} {ws : List V} {neg : Bool} (e : atv d = some v) (e' : atvs ds = some ws) (h1 : flatV v = true) (h2 : ws.all flatV = true) : R2k m (rIn K neg) (tD d) (tTp ds) (tBo (if neg then !inV v ws else inV v ws)) := fun x y H S s hx hy Q q => by
  obtain ⟨a, xs, rfl, g1, g2⟩ := dp_tup hy
  rw [atv_dp hx e]
  have e2 := atvs_dp g2 e'
  subst e2
  exact ⟨a, xs, rfl, .inr (SqT.of (vw_sub s _ _ g1)), h1, h2, q _ H S (Gr.refl s) (.bl _)⟩
theorem atvs_ints : ∀ ns : List Int, atvs (ns.map PyData.int) = some (ns.map V.int)
  | [] => rfl
  | n :: ns => by simp [atvs, atv, atvs_ints ns]
theorem inV_ints (k : Int) : ∀ ns : List Int, inV (.int k) (ns.map V.int) = decide (k ∈ ns)
  | [] => by simp [inV]
  | n :: ns => by
    have ih := inV_ints k ns
    unfold inV at ih ⊢
    rw [List.map_cons, List.any_cons, ih]
    by_cases c : n = k
    · subst c; simp [eqV]
    · have c' : ¬ k = n := fun e => c e.symm
      simp [eqV, c, c']
theorem flat_ints : ∀ ns : List Int, (ns.map V.int).all flatV = true
  | [] => rfl
  | n :: ns => by rw [List.map_cons, List.all_cons, flat_ints ns]; rfl
theorem r_inI {k : Int} {ns : List Int} : R2k m (rIn K false) (tI k) (tLs (ns.map .int)) (tBo (decide (k ∈ ns))) := by
  have h := r_inL (K := K) (m := m) (d := .int k) (neg := false) rfl (atvs_ints ns) rfl (flat_ints ns)
  rwa [inV_ints] at h
theorem r_niI {k : Int} {ns : List Int} : R2k m (rIn K true) (tI k) (tLs (ns.map .int)) (tBo (!decide (k ∈ ns))) := by
  have h := r_inL (K := K) (m := m) (d := .int k) (neg := true) rfl (atvs_ints ns) rfl (flat_ints ns)
  rwa [inV_ints] at h
/-! tests and bools -/
theorem t_B (h : SE true te Γ C (tBo b)) : ST (tB te) Γ C b := fun F σ H S s Q q => h F σ H S s _ fun v H1 S1 g k => ⟨b, dp_bl k, q H1 S1 g⟩
theorem t_test (h : SE true te Γ C (tBo b)) : ST (tTest te) Γ C b := fun F σ H S s Q q => h F σ H S s _ fun v H1 S1 g k => ⟨b, dp_bl k, q H1 S1 g⟩
theorem t_BV (h : SE false te Γ C (tBo b)) : ST (tB te) Γ C b := t_B (e_atom h atom_bl)
theorem t_testV (h : SE false te Γ C (tBo b)) : ST (tTest te) Γ C b := t_test (e_atom h atom_bl)
theorem t_is {a : Bool} (h : ST t Γ C a) (e : a = b) : ST t Γ C b := e ▸ h
theorem t_not (h : ST t Γ C b) : ST (tNot t) Γ C (!b) := fun F σ H S s Q q => h F σ H S s _ fun H1 S1 g => q H1 S1 g
theorem t_and {a : Bool} (h1 : ST t Γ C a) (h2 : a = true → ST u Γ C b) : ST (tAnd t u) Γ C (a && b) := fun F σ H S s Q q => h1 F σ H S s _ fun H1 S1 g => by
  cases a with
  | true => exact iteT (h2 rfl F σ H1 S1 (s.grow g) Q fun H2 S2 g2 => q H2 S2 (g.trans g2))
  | false => exact iteF (q H1 S1 g)
theorem t_or {a : Bool} (h1 : ST t Γ C a) (h2 : a = false → ST u Γ C b) : ST (tOr t u) Γ C (a || b) := fun F σ H S s Q q => h1 F σ H S s _ fun H1 S1 g => by
  cases a with
  | true => exact iteT (q H1 S1 g)
  | false => exact iteF (h2 rfl F σ H1 S1 (s.grow g) Q fun H2 S2 g2 => q H2 S2 (g.trans g2))
theorem e_and {a : Bool} (h1 : SE true ta Γ C (tBo a)) (h2 : a = true → SE true tb Γ C (tBo b)) : SE true (tAndV ta tb) Γ C (tBo (a && b)) := fun F σ H S s Q q => h1 F σ H S s _ fun v H1 S1 g k => ⟨a, dp_bl k, by
  cases a with
  | true => exact iteT (h2 rfl F σ H1 S1 (s.grow g) Q fun z H2 S2 g2 k2 => q z H2 S2 (g.trans g2) k2)
  | false => exact iteF (q _ H1 S1 g (.bl _))⟩
theorem e_or {a : Bool} (h1 : SE true ta Γ C (tBo a)) (h2 : a = false → SE true tb Γ C (tBo b)) : SE true (tOrV ta tb) Γ C (tBo (a || b)) := fun F σ H S s Q q => h1 F σ H S s _ fun v H1 S1 g k => ⟨a, dp_bl k, by
  cases a with
  | true => exact iteT (q _ H1 S1 g (.bl _))
  | false => exact iteF (h2 rfl F σ H1 S1 (s.grow g) Q fun z H2 S2 g2 k2 => q z H2 S2 (g.trans g2) k2)⟩
theorem e_not (h : SE true ta Γ C (tBo b)) : SE true (tNotV ta) Γ C (tBo (!b)) := fun F σ H S s Q q => h F σ H S s _ fun v H1 S1 g k => ⟨b, dp_bl k, q _ H1 S1 g (.bl _)⟩
theorem e_if (h : ST t Γ C b) (h1 : b = true → SE m ta Γ C T) (h2 : b = false → SE m tb Γ C T) : SE m (tIf t ta tb) Γ C T := fun F σ H S s Q q => h F σ H S s _ fun H1 S1 g => by
  cases b with
  | true => exact iteT (h1 rfl F σ H1 S1 (s.grow g) Q fun z H2 S2 g2 k2 => q z H2 S2 (g.trans g2) k2)
  | false => exact iteF (h2 rfl F σ H1 S1 (s.grow g) Q fun z H2 S2 g2 k2 => q z H2 S2 (g.trans g2) k2)
def isNon : PyData → Bool
  | .none => true
  | _ => false
theorem isNon_dp {S : Hp} {d : PyData} {v : V} (k : Dq S v d) : decide (v = .non) = isNon d := by
  cases k <;> simp [isNon]
theorem e_isN {d : PyData} (h : SE true ta Γ C (tD d)) : SE true (tIsN ta) Γ C (tBo (isNon d)) := fun F σ H S s Q q => h F σ H S s _ fun v H1 S1 g k => by
  rw [isNon_dp k]; exact q _ H1 S1 g (.bl _)
theorem e_notN {d : PyData} (h : SE true ta Γ C (tD d)) : SE true (tNotN ta) Γ C (tBo (!isNon d)) := fun F σ H S s Q q => h F σ H S s _ fun v H1 S1 g k => by
  rw [isNon_dp k]; exact q _ H1 S1 g (.bl _)
/-! argument lists, displays -/
theorem a_nil : SA m tNil Γ C [] := fun F σ H S s Q q => q [] H S (Gr.refl s.sub) trivial
theorem a_cons {tr : TA} {Ts : List Ty} (h : SE m te Γ C T) (hr : SA m tr Γ C Ts) : SA m (tCons te tr) Γ C (T :: Ts) := fun F σ H S s Q q =>
  h F σ H S s _ fun v H1 S1 g1 k1 => hr F σ H1 S1 (s.grow g1) _ fun vs H2 S2 g2 k2 => q _ H2 S2 (g1.trans g2) ⟨T.mono (vw_same g2) k1, k2⟩
theorem a_is {ta : TA} {Ts Ts' : List Ty} (h : SA m ta Γ C Ts) (e : Ts = Ts') : SA m ta Γ C Ts' := e ▸ h
theorem Gr.settled {H S H1 S1 : Hp} (g : Gr0 H S H1 S1) {p : Addr} {o : HO} (hp : H p = none) (h1 : H1 p = some o) (h2 : S1 p = none) : Gr0 H S H1 (upd S1 p o) :=
  ⟨g.keep, g.there, g.s.trans (Sw.same_upd h2), (Gr.settle g.sub h1 h2).2, fun q u e => by
    by_cases c : q = p
    · subst c; exact .inr (.inl hp)
    · rw [upd_ne c] at e; exact g.new q u e⟩
theorem e_ofO {ds : List PyData} (h : SO te Γ C ds) : SE true te Γ C (tLs ds) := fun F σ H S s Q q => h F σ H S s Q fun p vs H1 S1 g hp h1 h2 k =>
  q _ H1 (upd S1 p (.lst vs)) (g.settled hp h1 h2) (.lst upd_same (dps_mono (same_upd h2) _ _ k))
theorem e_tup {ta : TA} {ds : List PyData} (h : SA true ta Γ C (ds.map (tD))) (hl : ds.length ≤ 100000) : SE true (tTup ta) Γ C (tTp ds) := fun F σ H S s Q q => h F σ H S s _ fun vs H1 S1 g k => by
  have kd := Tys.data k
  refine ⟨by rw [dps_len kd]; exact Nat.le_trans hl (by decide), fun p hp => ?_⟩
  have g2 := Gr.allocS (M := M0) g.sub (o := .tup vs) hp
  exact q _ _ _ (g.trans g2) (.tup upd_same (dps_mono g2.s _ _ kd))
theorem o_lst {ta : TA} {ds : List PyData} (h : SA true ta Γ C (ds.map (tD))) (hl : ds.length ≤ 100000) : SO (tLst ta) Γ C ds := fun F σ H S s Q q => h F σ H S s _ fun vs H1 S1 g k => by
  have kd := Tys.data k
  refine ⟨by rw [dps_len kd]; exact Nat.le_trans hl (by decide), fun p hp => ?_⟩
  have g2 := Gr.alloc (M := M0) g.sub (o := .lst vs) hp
  exact q p vs _ _ (g.trans g2) (g.there _ hp) upd_same (same_none g.sub hp) kd
theorem ad_nil : SA true tNil Γ C (([] : List PyData).map (tD)) := a_nil
theorem ad_cons {tr : TA} {d : PyData} {ds : List PyData} (h : SE true te Γ C (tD d)) (hr : SA true tr Γ C (ds.map (tD))) : SA true (tCons te tr) Γ C ((d :: ds).map (tD)) := a_cons h hr
theorem e_lst {ta : TA} {ds : List PyData} (h : SA true ta Γ C (ds.map (tD))) (hl : ds.length ≤ 100000) : SE true (tLst ta) Γ C (tLs ds) := e_ofO (o_lst h hl)
/-! slices -/
def cutD (xs : List PyData) (lo hi : Option Int) : List PyData := (xs.drop (HT.sIx xs.length 0 lo)).take (HT.sIx xs.length xs.length hi - HT.sIx xs.length 0 lo)
theorem dps_cut {H : Hp} {ds : List PyData} {vs : List V} (h : DqAll H vs ds) (lo hi : Option Int) : DqAll H (cutV vs lo hi) (cutD ds lo hi) := by
  unfold cutV cutD
  rw [dps_len h]
  exact dps_take _ (dps_drop _ h)
theorem p_none : SP tNoPart Γ C none := fun _ _ H S s _ q => q H S (Gr.refl s.sub)
theorem p_int {i : Int} : SP (tPart (tC (.int i))) Γ C (some i) := fun _ _ H S s _ q => ⟨i, rfl, q H S (Gr.refl s.sub)⟩
theorem p_neg {i : Int} : SP (tPart (tUn (rU fun i => .int (-i)) (tC (.int i)))) Γ C (some (-i)) := fun _ _ H S s _ q => ⟨i, rfl, -i, rfl, q H S (Gr.refl s.sub)⟩
theorem p_some {i : Int} (h : SE true te Γ C (tI i)) : SP (tPart te) Γ C (some i) := fun F σ H S s _ q => h F σ H S s _ fun v H1 S1 g k => ⟨i, dp_int k, q H1 S1 g⟩
theorem o_sl {tl th : TO} {ds : List PyData} {lo hi : Option Int} (h : SE true te Γ C (tLs ds)) (h1 : SP tl Γ C lo) (h2 : SP th Γ C hi) : SO (tSl (rSlL K) te tl th) Γ C (cutD ds lo hi) := fun F σ H S s Q q =>
  h F σ H S s _ fun x H1 S1 g1 k1 => h1 F σ H1 S1 (s.grow g1) _ fun H2 S2 g2 => h2 F σ H2 S2 (s.grow (g1.trans g2)) _ fun H3 S3 g3 => by
    obtain ⟨a, xs, rfl, hs, ha⟩ := dp_lst (dp_mono (g2.trans g3).s _ _ k1)
    refine ⟨a, xs, rfl, SqL.of (g3.sub _ _ hs), fun p hp => ?_⟩
    have g := (g1.trans g2).trans g3
    have g4 := Gr.alloc (M := M0) g.sub (o := .lst (cutV xs lo hi)) hp
    exact q p _ _ _ (g.trans g4) (g.there _ hp) upd_same (same_none g.sub hp) (dps_cut ha lo hi)
/-- a slice of an own list -/
theorem o_slO {tl th : TO} {i : Nat} {p : Addr} {ds : List PyData} {lo hi : Option Int} (h : Γ[i]? = some (some (tV (.ref p)))) (hc : cL p ds ∈ C) (h1 : SP tl Γ C lo) (h2 : SP th Γ C hi) : SO (tSl (rSlL K) (tVar i) tl th) Γ C (cutD ds lo hi) := fun F σ H S s Q q => by
  obtain ⟨v, ev, kv⟩ := s.sl i _ h
  have kv : v = .ref p := kv
  subst kv
  refine ⟨_, ev, h1 F σ H S s _ fun H2 S2 g2 => h2 F σ H2 S2 (s.grow g2) _ fun H3 S3 g3 => ?_⟩
  have g := g2.trans g3
  obtain ⟨o, e1, e2, vs, rfl, e3⟩ := (s.grow g).cl.one hc
  refine ⟨p, vs, rfl, SqL.of e1, fun p' hp => ?_⟩
  have g4 := Gr.alloc (M := M0) g.sub (o := .lst (cutV vs lo hi)) hp
  exact q p' _ _ _ (g.trans g4) (g.there _ hp) upd_same (same_none g.sub hp) (dps_cut e3 lo hi)
theorem e_slT {tl th : TO} {ds : List PyData} {lo hi : Option Int} (h : SE true te Γ C (tTp ds)) (h1 : SP tl Γ C lo) (h2 : SP th Γ C hi) (hw : ¬ (HT.sIx ds.length 0 lo = 0 ∧ HT.sIx ds.length ds.length hi = ds.length)) : SE true (tSl (rSlT K) te tl th) Γ C (tTp (cutD ds lo hi)) := fun F σ H S s Q q =>
  h F σ H S s _ fun x H1 S1 g1 k1 => h1 F σ H1 S1 (s.grow g1) _ fun H2 S2 g2 => h2 F σ H2 S2 (s.grow (g1.trans g2)) _ fun H3 S3 g3 => by
    obtain ⟨a, xs, rfl, hs, ha⟩ := dp_tup (dp_mono (g2.trans g3).s _ _ k1)
    refine ⟨a, xs, rfl, SqT.of (g3.sub _ _ hs), by rw [dps_len ha]; exact hw, fun p hp => ?_⟩
    have g := (g1.trans g2).trans g3
    have g4 := Gr.allocS (M := M0) g.sub (o := .tup (cutV xs lo hi)) hp
    exact q _ _ _ (g.trans g4) (.tup upd_same (dps_cut (dps_mono g4.s _ _ ha) lo hi))
/-! calls of builtins by values -/
theorem e_cb {r : List V → Hp → VK → Prop} {ta : TA} {Ts : List Ty} (h : SA m ta Γ C Ts) (hr : RCk m r Ts T) : SE m (tCB r ta) Γ C T := fun F σ H S s Q q =>
  h F σ H S s _ fun vs H1 S1 g k => hr vs H1 S1 g.sub k Q fun z H2 S2 g2 k2 => q z H2 S2 (g.trans g2) k2
theorem o_cb {r : List V → Hp → VK → Prop} {ta : TA} {Ts : List Ty} {ds : List PyData} (h : SA m ta Γ C Ts) (hr : RCo m r Ts ds) : SO (tCB r ta) Γ C ds := fun F σ H S s Q q =>
  h F σ H S s _ fun vs H1 S1 g k => hr vs H1 S1 g.sub k Q fun p us H2 S2 g2 hp h1 h2 k2 => q p us H2 S2 (g.trans g2) (g.there _ hp) h1 h2 k2
def rLenS (K : PySem.W.Frag) : List V → Hp → VK → Prop := fun xs H Q => ∃ p ys, xs = [.ref p] ∧ (SqL K H p ys ∨ SqT K H p ys) ∧ Q (.int ys.length) H
def rListS (K : PySem.W.Frag) : List V → Hp → VK → Prop := fun xs H Q => ∃ p ys, xs = [.ref p] ∧ (SqL K H p ys ∨ SqT K H p ys) ∧ ∀ l, H l = none → Q (.ref l) (upd H l (.lst ys))
theorem tys1 {S : Hp} {T : Ty} {vs : List V} (h : Tys S [T] vs) : ∃ v, vs = [v] ∧ T.ok S v := by
  match vs, h with
  | [v], h => exact ⟨v, rfl, h.1⟩
theorem tys2 {S : Hp} {T T' : Ty} {vs : List V} (h : Tys S [T, T'] vs) : ∃ v w, vs = [v, w] ∧ T.ok S v ∧ T'.ok S w := by
  match vs, h with
  | [v, w], h => exact ⟨v, w, rfl, h.1, h.2.1⟩
theorem c_lenL {ds : List PyData} : RCk m (rLenS K) [tLs ds] (tI (ds.length : Int)) := fun vs H S s h Q q => by
  obtain ⟨v, rfl, k⟩ := tys1 h
  obtain ⟨a, xs, rfl, h1, h2⟩ := dp_lst k
  exact ⟨a, xs, rfl, .inl (SqL.of (vw_sub s _ _ h1)), by rw [dps_len h2]; exact q _ H S (Gr.refl s) (.int _)⟩
theorem c_lenT {ds : List PyData} : RCk m (rLenS K) [tTp ds] (tI (ds.length : Int)) := fun vs H S s h Q q => by
  obtain ⟨v, rfl, k⟩ := tys1 h
  obtain ⟨a, xs, rfl, h1, h2⟩ := dp_tup k
  exact ⟨a, xs, rfl, .inr (SqT.of (vw_sub s _ _ h1)), by rw [dps_len h2]; exact q _ H S (Gr.refl s) (.int _)⟩
theorem c_listL {ds : List PyData} : RCo true (rListS K) [tLs ds] ds := fun vs H S s h Q q => by
  obtain ⟨v, rfl, k⟩ := tys1 h
  obtain ⟨a, xs, rfl, h1, h2⟩ := dp_lst k
  refine ⟨a, xs, rfl, .inl (SqL.of (s _ _ h1)), fun l hl => ?_⟩
  have g := Gr.alloc (M := M0) s (o := .lst xs) hl
  exact q l xs _ _ g hl upd_same (same_none s hl) h2
theorem c_listT {ds : List PyData} : RCo true (rListS K) [tTp ds] ds := fun vs H S s h Q q => by
  obtain ⟨v, rfl, k⟩ := tys1 h
  obtain ⟨a, xs, rfl, h1, h2⟩ := dp_tup k
  refine ⟨a, xs, rfl, .inr (SqT.of (s _ _ h1)), fun l hl => ?_⟩
  have g := Gr.alloc (M := M0) s (o := .lst xs) hl
  exact q l xs _ _ g hl upd_same (same_none s hl) h2
/-- list(own) of atoms -/
theorem c_listA {ds : List PyData} {ws : List V} (hw : atvs ds = some ws) : RCo m (rListS K) [tLs ds] ds := fun vs H S s h Q q => by
  obtain ⟨v, rfl, k⟩ := tys1 h
  obtain ⟨a, xs, rfl, h1, h2⟩ := dp_lst k
  refine ⟨a, xs, rfl, .inl (SqL.of (vw_sub s _ _ h1)), fun l hl => ?_⟩
  have g := Gr.alloc (M := M0) s (o := .lst xs) hl
  refine q l xs _ _ g hl upd_same (same_none s hl) ?_
  have : ∀ {ds : List PyData} {vs : List V} {ws : List V} {A B : Hp}, DqAll A vs ds → atvs ds = some ws → DqAll B vs ds := by
    intro ds
    induction ds with
    | nil => intro vs ws A B h _; cases h; exact .nil
    | cons d ds ih =>
      intro vs ws A B h e
      cases h with
      | cons h1 h2 =>
        unfold atvs at e
        split at e
        · rename_i v vs e1 e2
          refine .cons ?_ (ih h2 e2)
          have hv := atv_dp h1 e1
          subst hv
          cases h1 with
          | non => exact .non
          | bl b => exact .bl b
          | int i => exact .int i
          | str x => exact .str x
          | lst _ _ => simp [atv] at e1
          | tup _ _ => simp [atv] at e1
        · cases e
  exact this h2 hw
theorem c_abs {i : Int} : RCk m (fun xs H Q => ∃ i, xs = [.int i] ∧ Q (.int (if i < 0 then -i else i)) H) [tI i] (tI (if i < 0 then -i else i)) := fun vs H S s h Q q => by
  obtain ⟨v, rfl, k⟩ := tys1 h
  exact ⟨i, by rw [dp_int k], q _ H S (Gr.refl s) (.int _)⟩
theorem c_max2 {i j : Int} : RCk m (fun xs H Q => ∃ i j, xs = [.int i, .int j] ∧ Q (.int (if j > i then j else i)) H) [tI i, tI j] (tI (if j > i then j else i)) := fun vs H S s h Q q => by
  obtain ⟨v, w, rfl, k, k'⟩ := tys2 h
  exact ⟨i, j, by rw [dp_int k, dp_int k'], q _ H S (Gr.refl s) (.int _)⟩
theorem c_intB {b : Bool} : RCk m (fun xs H Q => (∃ i, xs = [.int i] ∧ Q (.int i) H) ∨ ∃ k, xs = [.bl k] ∧ Q (.int (if k then 1 else 0)) H) [tBo b] (tI (if b then 1 else 0)) := fun vs H S s h Q q => by
  obtain ⟨v, rfl, k⟩ := tys1 h
  exact .inr ⟨b, by rw [dp_bl k], q _ H S (Gr.refl s) (.int _)⟩
theorem c_all {bs : List Bool} : RCk m (rAll K) [tLs (bs.map .bool)] (tBo (bs.all id)) := fun vs H S s h Q q => by
  obtain ⟨v, rfl, k⟩ := tys1 h
  obtain ⟨a, xs, rfl, h1, h2⟩ := dp_lst k
  rw [dps_bls h2] at h1
  exact ⟨a, bs, rfl, SqL.of (vw_sub s _ _ h1), q _ H S (Gr.refl s) (.bl _)⟩
theorem c_any {bs : List Bool} : RCk m (rAny K) [tLs (bs.map .bool)] (tBo (bs.any id)) := fun vs H S s h Q q => by
  obtain ⟨v, rfl, k⟩ := tys1 h
  obtain ⟨a, xs, rfl, h1, h2⟩ := dp_lst k
  rw [dps_bls h2] at h1
  exact ⟨a, bs, rfl, SqL.of (vw_sub s _ _ h1), q _ H S (Gr.refl s) (.bl _)⟩
end

/-! ### promises -/
/-- a pure def: it hands back something settled -/
def spP {α : Type} (args : α → List Ty) (cond : α → Prop) (res : α → Ty) : Sp := fun vs H Q _ => ∃ (a : α) (S : Hp), Same S H ∧ Tys S (args a) vs ∧ cond a ∧ ∀ v H' S', Gr0 H S H' S' → (res a).ok S' v → Q v H'
/-- a pure def: it hands back a new list, its items settled -/
def spO {α : Type} (args : α → List Ty) (cond : α → Prop) (res : α → List PyData) : Sp := fun vs H Q _ => ∃ (a : α) (S : Hp), Same S H ∧ Tys S (args a) vs ∧ cond a ∧
  ∀ p us H' S', Gr0 H S H' S' → H p = none → H' p = some (.lst us) → S' p = none → DqAll S' us (res a) → Q (.ref p) H'
section
variable {K : PySem.W.Frag} {m : Bool} {Γ : List Sl} {C : List Cell} {T : Ty} {α : Type} {args : α → List Ty} {cond : α → Prop} {res : α → Ty} {resO : α → List PyData} {E : XK} {ta : TA} {Ts : List Ty}
theorem e_call (a : α) (h : SA true ta Γ C Ts) (hT : Ts = args a) (hc : cond a) : SE true (tCall (spP args cond res) [] E ta) Γ C (res a) := fun F σ H S s Q q => h F σ H S s _ fun vs H1 S1 g k => by
  subst hT
  rw [List.append_nil]
  exact ⟨a, S1, g.sub, k, hc, fun v H2 S2 g2 k2 => q v H2 S2 (g.trans g2) k2⟩
/-- with own lists among the arguments, an atom back -/
theorem e_callA (a : α) (h : SA false ta Γ C Ts) (hT : Ts = args a) (hc : cond a) (hA : Atom (res a)) : SE m (tCall (spP args cond res) [] E ta) Γ C (res a) := fun F σ H S s Q q => h F σ H S s _ fun vs H1 S1 g k => by
  subst hT
  rw [List.append_nil]
  refine ⟨a, H1, Same.refl _, k, hc, fun v H2 S2 g2 k2 => q v H2 S1 (g.trans ⟨g2.keep, g2.there, Same.refl _, g.sub.trans g2.same, fun _ _ z => .inl z⟩) (hA _ _ _ k2)⟩
theorem o_call (a : α) (h : SA true ta Γ C Ts) (hT : Ts = args a) (hc : cond a) : SO (tCall (spO args cond resO) [] E ta) Γ C (resO a) := fun F σ H S s Q q => h F σ H S s _ fun vs H1 S1 g k => by
  subst hT
  rw [List.append_nil]
  exact ⟨a, S1, g.sub, k, hc, fun p us H2 S2 g2 hp h1 h2 k2 => q p us H2 S2 (g.trans g2) (g.there _ hp) h1 h2 k2⟩
end
end Sw
/-! statements, targets, walks, comprehensions; defs -/
namespace Sw
open PySem L2

structure Out where
  nx : L2.St → Hp → Hp → Prop
  rt : V → Hp → Hp → Prop
  bk : L2.St → Hp → Hp → Prop := fun _ _ _ => False
  ct : L2.St → Hp → Hp → Prop := fun _ _ _ => False
  /-- what is wished of an exception, and what is known where one leaves -/
  W : WX := fun _ _ _ _ => False
  xc : Value → Option Addr → L2.St → Hp → Hp → Prop := fun _ _ _ _ _ => False
structure OutOk (S0 : Hp) (O : Out) (D : Ends) : Prop where
  nx : ∀ σ H S, Same S0 S → O.nx σ H S → D.nx σ H
  rt : ∀ v H S, Same S0 S → O.rt v H S → D.rt v H
  bk : ∀ σ H S, Same S0 S → O.bk σ H S → D.bk σ H
  ct : ∀ σ H S, Same S0 S → O.ct σ H S → D.ct σ H
  xc : ∀ cls d σ H S, Same S0 S → O.xc cls d σ H S → O.W cls d σ H
theorem OutOk.grow {S S1 : Hp} {O : Out} {D : Ends} (e : Same S S1) (o : OutOk S O D) : OutOk S1 O D :=
  ⟨fun σ H S2 e2 h => o.nx σ H S2 (e.trans e2) h, fun v H S2 e2 h => o.rt v H S2 (e.trans e2) h, fun σ H S2 e2 h => o.bk σ H S2 (e.trans e2) h, fun σ H S2 e2 h => o.ct σ H S2 (e.trans e2) h, fun c d σ H S2 e2 h => o.xc c d σ H S2 (e.trans e2) h⟩
def SS (F : Fr0) (t : TS) (Γ : List Sl) (C : List Cell) (O : Out) : Prop := ∀ (σ : L2.St) (H S : Hp), Stt F Γ C σ H S → ∀ D : Ends, OutOk S O D → t D σ H
/-- a target: from Γ, a value of type T, to Γ'; the places it stores to are among vs -/
def SG (g : TG) (Γ : List Sl) (T : Ty) (Γ' : List Sl) (vs : List Nat) : Prop := ∀ (F : Fr0) (C : List Cell) (σ : L2.St) (H S : Hp) (v : V), Stt F Γ C σ H S → T.ok S v → ∀ Q : L2.St → Hp → Prop,
  (∀ σ', Stt F Γ' C σ' H S → (∀ ws : List Nat, (∀ i ∈ vs, i ∈ ws) → wipe σ' ws = wipe σ ws) → Q σ' H) → g v σ H Q
def SGs (g : TGs) (Γ : List Sl) (Ts : List Ty) (Γ' : List Sl) (vs : List Nat) : Prop := ∀ (F : Fr0) (C : List Cell) (σ : L2.St) (H S : Hp) (us : List V), Stt F Γ C σ H S → Tys S Ts us → ∀ Q : L2.St → Hp → Prop,
  (∀ σ', Stt F Γ' C σ' H S → (∀ ws : List Nat, (∀ i ∈ vs, i ∈ ws) → wipe σ' ws = wipe σ ws) → Q σ' H) → g us σ H Q
/-- what a walk over the data xs is, as long as Z stands -/
def WkOk {β : Type} (J : It) (S : Hp) (xs : List β) (ty : β → Ty) (Z : Hp → Prop) : Prop := ∃ (G : Hp → Prop) (Y : Nat → Hp → V → Hp → Prop), Walk J xs.length G Y ∧ (∀ H2 S2, Same S S2 → Same S2 H2 → Z H2 → G H2) ∧
  ∀ i b x H2 S2 H3, xs[i]? = some b → Same S S2 → Same S2 H2 → Z H2 → Y i H2 x H3 → ∃ S3, Gr0 H2 S2 H3 S3 ∧ (ty b).ok S3 x
def SWz {β : Type} (wi : TI) (Γ : List Sl) (C : List Cell) (xs : List β) (ty : β → Ty) (Z : Hp → Prop) : Prop := ∀ (F : Fr0) (σ : L2.St) (H S : Hp), Stt F Γ C σ H S → ∀ R : It → Hp → Prop, (∀ J H' S', Gr0 H S H' S' → WkOk J S' xs ty Z → R J H') → wi σ H R
abbrev SW {β : Type} (wi : TI) (Γ : List Sl) (C : List Cell) (xs : List β) (ty : β → Ty) : Prop := SWz wi Γ C xs ty fun _ => True

section
variable {K : PySem.W.Frag} {F : Fr0} {Γ Γ' Γ1 : List Sl} {C C' : List Cell} {O : Out} {t t1 t2 u s1 s2 : TS} {te to ti : TE} {c : TT} {T : Ty} {b : Bool} {ds : List PyData} {i : Nat}

theorem wipe_set {σ : L2.St} {i : Nat} {v : V} : ∀ {ws : List Nat}, i ∈ ws → wipe (σ.set i (some v)) ws = wipe σ ws
  | [], h => (nomatch h)
  | w :: ws, h => by
    unfold wipe
    by_cases hi : i ∈ ws
    · rw [wipe_set hi]
    · have e : i = w := (List.mem_cons.mp h).resolve_right hi
      subst e
      have key : ∀ {ws : List Nat}, i ∉ ws → wipe (σ.set i (some v)) ws = (wipe σ ws).set i (some v) := by
        intro ws
        induction ws with
        | nil => intro _; rfl
        | cons w ws ih =>
          intro h
          have hw : w ≠ i := fun e => h (by rw [e]; exact List.mem_cons_self)
          unfold wipe
          rw [ih fun z => h (List.mem_cons_of_mem _ z), List.set_comm _ _ hw]
      rw [key hi, List.set_set]
theorem g_name : SG (gName i) Γ T (Γ.set i (some T)) [i] := fun F C σ H S v s k Q q => q _ (s.set k) fun ws h => wipe_set (h i List.mem_cons_self)
theorem gs_nil : SGs gNil Γ [] Γ [] := fun F C σ H S us s k Q q => by
  match us, k with
  | [], _ => exact ⟨rfl, q σ s fun _ _ => rfl⟩
theorem gs_cons {g : TG} {gs : TGs} {Ts : List Ty} {vs ws : List Nat} (h : SG g Γ T Γ1 vs) (hs : SGs gs Γ1 Ts Γ' ws) : SGs (gCons g gs) Γ (T :: Ts) Γ' (vs ++ ws) := fun F C σ H S us s k Q q => by
  match us, k with
  | v :: us, k =>
    refine ⟨v, us, rfl, h F C σ H S v s k.1 _ fun σ1 s1 w1 => hs F C σ1 H S us s1 k.2 _ fun σ2 s2 w2 => q σ2 s2 fun zs hz => ?_⟩
    rw [w2 zs fun i hi => hz i (List.mem_append_right _ hi), w1 zs fun i hi => hz i (List.mem_append_left _ hi)]
theorem tys_of : ∀ {ds : List PyData} {us : List V} {S : Hp}, DqAll S us ds → Tys S (ds.map (tD)) us
  | [], _, _, h => by cases h; trivial
  | d :: ds, _, _, h => by
    cases h with
    | cons h1 h2 => exact ⟨h1, tys_of h2⟩
theorem g_tup {gs : TGs} {n : Nat} {vs : List Nat} (h : SGs gs Γ (ds.map (tD)) Γ' vs) (hn : ds.length = n) : SG (gTup K n gs) Γ (tTp ds) Γ' vs := fun F C σ H S v s k Q q => by
  obtain ⟨a, xs, rfl, h1, h2⟩ := dp_tup k
  exact ⟨a, xs, rfl, SqT.of (s.sub _ _ h1), by rw [dps_len h2]; exact hn, h F C σ H S xs s (tys_of h2) Q q⟩
theorem g_unl {gs : TGs} {n : Nat} {vs : List Nat} (h : SGs gs Γ (ds.map (tD)) Γ' vs) (hn : ds.length = n) : SG (gUnl K n gs) Γ (tLs ds) Γ' vs := fun F C σ H S v s k Q q => by
  obtain ⟨a, xs, rfl, h1, h2⟩ := dp_lst k
  exact ⟨a, xs, rfl, SqL.of (s.sub _ _ h1), by rw [dps_len h2]; exact hn, h F C σ H S xs s (tys_of h2) Q q⟩

/-! blocks -/
theorem ss_weak (hl : leG Γ Γ') (h : SS F t Γ' C O) : SS F t Γ C O := fun σ H S s D o => h σ H S (s.weak hl) D o
theorem ss_perm (hp : C.Perm C') (h : SS F t Γ C' O) : SS F t Γ C O := fun σ H S s D o => h σ H S (s.perm hp) D o
theorem ss_nil (h : ∀ σ H S, Stt F Γ C σ H S → O.nx σ H S) : SS F tNext Γ C O := fun σ H S s D o => o.nx σ H S (Same.refl S) (h σ H S s)
theorem ss_assoc (h : SS F (tSeq s1 (tSeq s2 u)) Γ C O) : SS F (tSeq (tSeq s1 s2) u) Γ C O := h
theorem ss_next (h : SS F u Γ C O) : SS F (tSeq tNext u) Γ C O := h
theorem ss_set (he : SE true te Γ C T) (h : SS F u (Γ.set i (some T)) C O) : SS F (tSeq (tAsg te (gName i)) u) Γ C O := fun σ H S s D o =>
  he F σ H S s _ fun v H1 S1 g k => h (σ.set i (some v)) H1 S1 ((s.grow g).set k) D (o.grow g.s)
theorem ss_setO (he : SO te Γ C ds) (h : ∀ p, (∀ x ∈ C, ¬ x.dom p) → F.H p = none → SS F u (Γ.set i (some (tV (.ref p)))) (cL p ds :: C) O) : SS F (tSeq (tAsg te (gName i)) u) Γ C O := fun σ H S s D o =>
  he F σ H S s _ fun p vs H1 S1 g hp h1 h2 k => h p (fun x hx e => by
    obtain ⟨_, q⟩ := s.cl.at_ x hx
    obtain ⟨_, o, q, _⟩ := q p e
    rw [hp] at q; cases q) (s.g.there _ hp) (σ.set i (some (.ref p))) H1 S1 ((s.new (X := pL ds) g hp h1 h2 ⟨vs, rfl, k⟩).set (T := tV (.ref p)) rfl) D (o.grow g.s)
theorem ss_asg {g : TG} {vs : List Nat} (he : SE true te Γ C T) (hg : SG g Γ T Γ' vs) (h : SS F u Γ' C O) : SS F (tSeq (tAsg te g) u) Γ C O := fun σ H S s D o =>
  he F σ H S s _ fun v H1 S1 gr k => hg F C σ H1 S1 v (s.grow gr) k _ fun σ' s' _ => h σ' H1 S1 s' D (o.grow gr.s)
theorem ss_par {j : Nat} {ta : TA} {T' : Ty} (he : SA true ta Γ C [T, T']) (h : SS F u ((Γ.set i (some T)).set j (some T')) C O) : SS F (tSeq (tPar i j ta) u) Γ C O := fun σ H S s D o =>
  he F σ H S s _ fun vs H1 S1 g k => by
    obtain ⟨v, w, rfl, k1, k2⟩ := tys2 k
    exact ⟨v, w, rfl, h _ H1 S1 (((s.grow g).set k1).set k2) D (o.grow g.s)⟩
theorem ss_ret (he : SE true te Γ C T) (h : ∀ v σ H S, Stt F Γ C σ H S → T.ok S v → O.rt v H S) : SS F (tSeq (tRet te) u) Γ C O := fun σ H S s D o =>
  he F σ H S s _ fun v H1 S1 g k => o.rt v H1 S1 g.s (h v σ H1 S1 (s.grow g) k)
theorem ss_retO (he : SO te Γ C ds) (h : ∀ p vs σ H S, Stt F Γ C σ H S → F.H p = none → H p = some (.lst vs) → S p = none → DqAll S vs ds → O.rt (.ref p) H S) : SS F (tSeq (tRet te) u) Γ C O := fun σ H S s D o =>
  he F σ H S s _ fun p vs H1 S1 g hp h1 h2 k => o.rt _ H1 S1 g.s (h p vs σ H1 S1 (s.grow g) (s.g.there _ hp) h1 h2 k)
theorem ss_retN (h : ∀ σ H S, Stt F Γ C σ H S → O.rt .non H S) : SS F (tSeq tRetN u) Γ C O := fun σ H S s D o => o.rt _ H S (Same.refl S) (h σ H S s)
theorem ss_if (hc : ST c Γ C b) (h1 : b = true → SS F (tSeq t1 u) Γ C O) (h2 : b = false → SS F (tSeq t2 u) Γ C O) : SS F (tSeq (tIfS c t1 t2) u) Γ C O := fun σ H S s D o => hc F σ H S s _ fun H1 S1 g => by
  cases b with
  | true => exact iteT (h1 rfl σ H1 S1 (s.grow g) D (o.grow g.s))
  | false => exact iteF (h2 rfl σ H1 S1 (s.grow g) D (o.grow g.s))
/-- the branches join -/
theorem ss_ifJ (Γ' : List Sl) (C' : List Cell) (hc : ST c Γ C b) (h1 : b = true → SS F t1 Γ C { O with nx := fun σ H S => Stt F Γ' C' σ H S }) (h2 : b = false → SS F t2 Γ C { O with nx := fun σ H S => Stt F Γ' C' σ H S }) (h : SS F u Γ' C' O) :
    SS F (tSeq (tIfS c t1 t2) u) Γ C O := fun σ H S s D o => hc F σ H S s _ fun H1 S1 g => by
  have o' : OutOk S1 { O with nx := fun σ H S => Stt F Γ' C' σ H S } { D with nx := u D } :=
    ⟨fun σ H2 S2 e s => h σ H2 S2 s D ((o.grow g.s).grow e), (o.grow g.s).rt, (o.grow g.s).bk, (o.grow g.s).ct, (o.grow g.s).xc⟩
  cases b with
  | true => exact iteT (h1 rfl σ H1 S1 (s.grow g) _ o')
  | false => exact iteF (h2 rfl σ H1 S1 (s.grow g) _ o')
theorem ss_drop (he : SE true te Γ C T) (h : SS F u Γ C O) : SS F (tSeq (tDrop te) u) Γ C O := fun σ H S s D o =>
  he F σ H S s _ fun v H1 S1 g k => h σ H1 S1 (s.grow g) D (o.grow g.s)
theorem ss_cont (h : ∀ σ H S, Stt F Γ C σ H S → O.ct σ H S) : SS F (tSeq tCont u) Γ C O := fun σ H S s D o => o.ct σ H S (Same.refl S) (h σ H S s)
/-- x += e -/
theorem ss_aug {te : TE} {f : Int → Int → Int} {n k : Int} (hx : Γ[i]? = some (some (tI n))) (he : SE true te Γ C (tI k)) (h : SS F u (Γ.set i (some (tI (f n k)))) C O) : SS F (tSeq (tAug i te (ipI f)) u) Γ C O := fun σ H S s D o => by
  obtain ⟨v, e, kv⟩ := s.sl i _ hx
  rw [dp_int kv] at e
  exact ⟨_, e, he F σ H S s _ fun w H1 S1 g k1 => ⟨n, k, rfl, dp_int k1, h _ H1 S1 ((s.grow g).set (T := tI (f n k)) (.int _)) D (o.grow g.s)⟩⟩
/-- xs.append(e), xs an own list at the cells' head -/
theorem ss_app {p : Addr} {d : PyData} {T' : String} (hx : Γ[i]? = some (some (tV (.ref p)))) (he : SE true te Γ (cL p ds :: C) (tD d)) (hl : ds.length < 100000) (h : SS F u Γ (cL p (ds ++ [d]) :: C) O) (hT : T' = "list") :
    SS F (tSeq (tDrop (tBM K T' rAppend (tVar i) (tCons te tNil))) u) Γ (cL p ds :: C) O := fun σ H S s D o => by
  subst hT
  obtain ⟨v, ev, kv⟩ := s.sl i _ hx
  have kv : v = .ref p := kv
  subst kv
  obtain ⟨o1, q1, q2, vs1, rfl, q3⟩ := s.cl.one List.mem_cons_self
  refine ⟨_, ev, .inl ⟨rfl, _, SqL.of q1⟩, he F σ H S s _ fun w H1 S1 g k => ?_⟩
  have s1 := s.grow g
  obtain ⟨o2, e1, e2, vs, rfl, e3⟩ := s1.cl.one List.mem_cons_self
  refine ⟨p, vs, w, rfl, rfl, e1, by rw [dps_len e3]; exact Nat.lt_of_lt_of_le hl (by decide), ?_⟩
  exact h σ _ S1 (s1.write (X' := pL (ds ++ [d])) ⟨_, rfl, dps_app e3 (.cons k .nil)⟩) D (o.grow g.s)
/-- xs[k] = e, xs an own list at the cells' head -/
theorem ss_setItem {p : Addr} {d : PyData} {k : Int} {n : Nat} (hx : Γ[i]? = some (some (tV (.ref p)))) (he : SE true te Γ (cL p ds :: C) (tD d)) (hi : SE true ti Γ (cL p ds :: C) (tI k)) (hk : ixN ds.length k = some n) (h : SS F u Γ (cL p (ds.set n d) :: C) O) :
    SS F (tSeq (tAsg te (gSub (tVar i) ti rSetL)) u) Γ (cL p ds :: C) O := fun σ H S s D o => he F σ H S s _ fun w H1 S1 g1 k1 => by
  obtain ⟨v, ev, kv⟩ := (s.grow g1).sl i _ hx
  have kv : v = .ref p := kv
  subst kv
  refine ⟨_, ev, hi F σ H1 S1 (s.grow g1) _ fun z H2 S2 g2 k2 => ?_⟩
  have s2 := s.grow (g1.trans g2)
  obtain ⟨o2, e1, e2, vs, rfl, e3⟩ := s2.cl.one List.mem_cons_self
  refine ⟨p, vs, k, n, rfl, dp_int k2, e1, by rw [dps_len e3]; exact hk, ?_⟩
  exact h σ _ S2 (s2.write (X' := pL (ds.set n d)) ⟨_, rfl, dps_set (dp_mono g2.s _ _ k1) n e3⟩) D (o.grow (g1.trans g2).s)
/-- an own list settles: slot i -/
theorem ss_settle (i : Nat) {p : Addr} (hx : Γ[i]? = some (some (tV (.ref p)))) (hn : F.H p = none) (h : SS F u (Γ.set i (some (tLs ds))) C O) : SS F u Γ (cL p ds :: C) O := fun σ H S s D o => by
  obtain ⟨v, ev, kv⟩ := s.sl i _ hx
  have kv : v = .ref p := kv
  subst kv
  obtain ⟨ob, h1, ⟨vs, rfl, h3⟩, h4, s1⟩ := s.settle hn
  have s2 : Stt F (Γ.set i (some (tLs ds))) C (σ.set i (some (.ref p))) H (upd S p (.lst vs)) := s1.set (.lst upd_same (dps_mono (same_upd h4) _ _ h3))
  have e : σ.set i (some (.ref p)) = σ := by
    obtain ⟨hl, e⟩ := List.getElem?_eq_some_iff.mp ev
    rw [← e, List.set_getElem_self]
  rw [e] at s2
  exact h σ H _ s2 D (o.grow (same_upd h4))

/-! walks -/
theorem dps_at {S : Hp} {ds : List PyData} {vs : List V} {i : Nat} {d : PyData} {x : V} (h : DqAll S vs ds) (e : ds[i]? = some d) (ex : vs[i]? = some x) : Dq S x d := by
  obtain ⟨v, e1, e2⟩ := dps_get h e
  rw [ex] at e1; cases e1
  exact e2
theorem w_list (h : SE true te Γ C (tLs ds)) : SW (iList K te) Γ C ds (tD) := fun F σ H S s R q => h F σ H S s _ fun v H1 S1 g k => by
  obtain ⟨a, xs, rfl, h1, h2⟩ := dp_lst k
  refine ⟨a, rfl, ⟨xs, SqL.of (g.sub _ _ h1)⟩, q _ H1 S1 g ⟨_, _, dps_len h2 ▸ walk_list (a := a) (xs := xs), fun H2 S2 e1 e2 _ => SqL.of ((e1.trans e2) _ _ h1), fun i b x H2 S2 H3 hb e1 e2 _ y => ?_⟩⟩
  obtain ⟨rfl, hx⟩ := y
  exact ⟨S2, Gr.refl e2, dp_mono e1 _ _ (dps_at h2 hb hx)⟩
theorem w_tup (h : SE true te Γ C (tTp ds)) : SW (iTup K te) Γ C ds (tD) := fun F σ H S s R q => h F σ H S s _ fun v H1 S1 g k => by
  obtain ⟨a, xs, rfl, h1, h2⟩ := dp_tup k
  refine ⟨a, rfl, ⟨xs, SqT.of (g.sub _ _ h1)⟩, q _ H1 S1 g ⟨_, _, dps_len h2 ▸ walk_tup (a := a) (xs := xs), fun H2 S2 e1 e2 _ => SqT.of ((e1.trans e2) _ _ h1), fun i b x H2 S2 H3 hb e1 e2 _ y => ?_⟩⟩
  obtain ⟨rfl, hx⟩ := y
  exact ⟨S2, Gr.refl e2, dp_mono e1 _ _ (dps_at h2 hb hx)⟩
theorem range_at {n i b : Nat} (h : (List.range n)[i]? = some b) : b = i := by
  obtain ⟨h1, h2⟩ := List.getElem?_eq_some_iff.mp h
  simp at h2; exact h2.symm
theorem w_range1 {ta : TA} {j : Int} (h : SA true ta Γ C [tI j]) (h1 : -(2 ^ 62) ≤ j) (h2 : j < 2 ^ 62) : SW (iRng1 ta) Γ C (List.range j.toNat) (fun k => tI (k : Int)) := fun F σ H S s R q => h F σ H S s _ fun vs H1 S1 g k => by
  obtain ⟨v, rfl, kv⟩ := tys1 k
  refine ⟨j, by rw [dp_int kv], h1, h2, q _ H1 S1 g ⟨_, _, (by rw [List.length_range]; exact walk_range), fun _ _ _ _ _ => trivial, fun i b x H2 S2 H3 hb e1 e2 _ y => ?_⟩⟩
  obtain ⟨rfl, rfl⟩ := y
  refine ⟨S2, Gr.refl e2, ?_⟩
  rw [range_at hb]
  show Dq S2 (.int (0 + (i : Int))) (.int (i : Int))
  rw [Int.zero_add]
  exact .int _
theorem w_range2 {ta : TA} {lo hi : Int} (h : SA true ta Γ C [tI lo, tI hi]) (hb : -(2 ^ 62) ≤ lo ∧ lo < 2 ^ 62 ∧ -(2 ^ 62) ≤ hi ∧ hi < 2 ^ 62) : SW (iRng2 ta) Γ C (List.range (hi - lo).toNat) (fun k => tI (lo + (k : Int))) := fun F σ H S s R q => h F σ H S s _ fun vs H1 S1 g k => by
  obtain ⟨v, w, rfl, kv, kw⟩ := tys2 k
  refine ⟨lo, hi, by rw [dp_int kv, dp_int kw], hb, q _ H1 S1 g ⟨_, _, (by rw [List.length_range]; exact walk_range), fun _ _ _ _ _ => trivial, fun i b x H2 S2 H3 hb e1 e2 _ y => ?_⟩⟩
  obtain ⟨rfl, rfl⟩ := y
  refine ⟨S2, Gr.refl e2, ?_⟩
  rw [range_at hb]
  exact .int _
theorem w_rev {ta : TA} (h : SA true ta Γ C [tLs ds]) : SW (iRev K ta) Γ C ds.reverse (tD) := fun F σ H S s R q => h F σ H S s _ fun vs H1 S1 g k => by
  obtain ⟨v, rfl, kv⟩ := tys1 k
  obtain ⟨a, xs, rfl, h1, h2⟩ := dp_lst kv
  refine ⟨a, xs, rfl, SqL.of (g.sub _ _ h1), q _ H1 S1 g ⟨_, _, (by rw [List.length_reverse, ← dps_len h2]; exact walk_rev (a := a) (xs := xs)), fun H2 S2 e1 e2 _ => SqL.of ((e1.trans e2) _ _ h1), fun i b x H2 S2 H3 hb e1 e2 _ y => ?_⟩⟩
  obtain ⟨rfl, hx⟩ := y
  refine ⟨S2, Gr.refl e2, dp_mono e1 _ _ (dps_at h2 ?_ hx)⟩
  have hi : i < ds.length := by
    have := (List.getElem?_eq_some_iff.mp hb).1
    simpa using this
  rw [List.getElem?_reverse hi] at hb
  rw [dps_len h2]; exact hb
theorem dp_pair {S : Hp} {H : Hp} {p : Addr} {x y : V} {d e : PyData} (hx : Dq S x d) (hy : Dq S y e) (hp : S p = none) : Dq (upd S p (.tup [x, y])) (.ref p) (.tuple [d, e]) :=
  .tup upd_same (.cons (dp_mono (same_upd hp) _ _ hx) (.cons (dp_mono (same_upd hp) _ _ hy) .nil))
theorem w_zip {ta : TA} {ds es : List PyData} (h : SA true ta Γ C [tLs ds, tLs es]) : SW (iZip K ta) Γ C (ds.zip es) (fun p => tTp [p.1, p.2]) := fun F σ H S s R q => h F σ H S s _ fun vs H1 S1 g k => by
  obtain ⟨v, w, rfl, kv, kw⟩ := tys2 k
  obtain ⟨a, xs, rfl, h1, h2⟩ := dp_lst kv
  obtain ⟨a', ys, rfl, h1', h2'⟩ := dp_lst kw
  refine ⟨a, a', xs, ys, rfl, SqL.of (g.sub _ _ h1), SqL.of (g.sub _ _ h1'), q _ H1 S1 g ⟨_, _, walk_zip (a := a) (b := a') (xs := xs) (ys := ys) (by rw [List.length_zip, dps_len h2, dps_len h2']), fun H2 S2 e1 e2 _ => ⟨SqL.of ((e1.trans e2) _ _ h1), SqL.of ((e1.trans e2) _ _ h1')⟩, fun i b x H2 S2 H3 hb e1 e2 _ y => ?_⟩⟩
  obtain ⟨p, x1, x2, rfl, hp, rfl, f1, f2⟩ := y
  obtain ⟨b1, b2⟩ := b
  have hz := List.getElem?_zip_eq_some.mp hb
  refine ⟨_, Gr.allocS e2 hp, dp_pair (H := H2) (dp_mono e1 _ _ (dps_at h2 hz.1 f1)) (dp_mono e1 _ _ (dps_at h2' hz.2 f2)) (same_none e2 hp)⟩
theorem w_enum {ta : TA} (h : SA true ta Γ C [tLs ds]) : SW (iEnum K ta) Γ C ds.zipIdx (fun p => tTp [.int (p.2 : Int), p.1]) := fun F σ H S s R q => h F σ H S s _ fun vs H1 S1 g k => by
  obtain ⟨v, rfl, kv⟩ := tys1 k
  obtain ⟨a, xs, rfl, h1, h2⟩ := dp_lst kv
  refine ⟨a, xs, rfl, SqL.of (g.sub _ _ h1), q _ H1 S1 g ⟨_, _, (by rw [List.length_zipIdx, ← dps_len h2]; exact walk_enum (a := a) (xs := xs)), fun H2 S2 e1 e2 _ => SqL.of ((e1.trans e2) _ _ h1), fun i b x H2 S2 H3 hb e1 e2 _ y => ?_⟩⟩
  obtain ⟨p, x1, x2, rfl, hp, rfl, f1, f2⟩ := y
  obtain ⟨b1, b2⟩ := b
  rw [List.getElem?_zipIdx] at hb
  cases e : ds[i]? with
  | none => rw [e] at hb; cases hb
  | some d =>
    rw [e] at hb
    cases hb
    cases f1
    refine ⟨_, Gr.allocS e2 hp, dp_pair (H := H2) ?_ (dp_mono e1 _ _ (dps_at h2 e f2)) (same_none e2 hp)⟩
    rw [show (0 + i : Nat) = i by omega]
    exact .int _
/-- a walk told otherwise -/
theorem w_mapz {β γ : Type} {Z : Hp → Prop} {wi : TI} {xs : List β} {ty : β → Ty} {ys : List γ} {f : γ → β} {ty' : γ → Ty} (h : SWz wi Γ C xs ty Z) (e : xs = ys.map f) (ht : ∀ y, ty (f y) = ty' y) : SWz wi Γ C ys ty' Z := fun F σ H S s R q => h F σ H S s R fun J H' S' g ⟨G, Y, w, hg, hy⟩ => q J H' S' g ⟨G, Y, by
    subst e
    rw [List.length_map] at w
    exact w, hg, fun i b x H2 S2 H3 hb e1 e2 z y => by
    rw [← ht]
    exact hy i (f b) x H2 S2 H3 (by rw [e, List.getElem?_map, hb]; rfl) e1 e2 z y⟩
theorem w_map {β γ : Type} {wi : TI} {xs : List β} {ty : β → Ty} {ys : List γ} {f : γ → β} {ty' : γ → Ty} (h : SW wi Γ C xs ty) (e : xs = ys.map f) (ht : ∀ y, ty (f y) = ty' y) : SW wi Γ C ys ty' := w_mapz h e ht

/-! for -/
theorem ss_forz {β γ : Type} {Z : Hp → Prop} {wi : TI} {g : TG} {tb : TS} {xs : List β} {ty : β → Ty} (hw : SWz wi Γ C xs ty Z) (inv : Nat → γ → Prop) (Γi : Nat → γ → List Sl) (Ci : Nat → γ → List Cell) (g0 : γ) (hp : inv 0 g0) (h0 : leG Γ (Γi 0 g0)) (c0 : C = Ci 0 g0) (hz : ∀ i y H S, CellsOk (Ci i y) H S → Z H)
    (hb : ∀ i y b, xs[i]? = some b → inv i y → ∃ Γt vs, SG g (Γi i y) (ty b) Γt vs ∧ SS F tb Γt (Ci i y) { nx := fun σ H S => ∃ y', inv (i + 1) y' ∧ Stt F (Γi (i + 1) y') (Ci (i + 1) y') σ H S, ct := fun σ H S => ∃ y', inv (i + 1) y' ∧ Stt F (Γi (i + 1) y') (Ci (i + 1) y') σ H S, rt := O.rt, W := O.W, xc := O.xc })
    (hd : ∀ y, inv xs.length y → SS F u (Γi xs.length y) (Ci xs.length y) O) : SS F (tSeq (tFor wi g tb) u) Γ C O := fun σ H S s D o => hw F σ H S s _ fun J H1 S1 gr ⟨G, Y, wk, hG, hY⟩ => by
  refine for_it wk (fun i σ H2 => ∃ y S2, inv i y ∧ Same S1 S2 ∧ Stt F (Γi i y) (Ci i y) σ H2 S2) ⟨g0, S1, hp, Same.refl _, c0 ▸ (s.grow gr).weak h0⟩ (fun i σ H2 _ ⟨y, S2, _, e, s2⟩ => hG H2 S2 e s2.sub (hz i y H2 S2 s2.cl)) ?_ ?_
  · rintro i x σ2 H2 H3 hi ⟨y, S2, hv, e, s2⟩ hy
    have hbi : xs[i]? = some xs[i] := List.getElem?_eq_getElem hi
    obtain ⟨Γt, vs, hg, hs⟩ := hb i y xs[i] hbi hv
    obtain ⟨S3, g3, k3⟩ := hY i xs[i] x H2 S2 H3 hbi e s2.sub (hz i y H2 S2 s2.cl) hy
    have e3 : Same S1 S3 := e.trans g3.s
    refine hg F _ σ2 H3 S3 x (s2.grow g3) k3 _ fun σ' s' _ => ?_
    exact hs σ' H3 S3 s' _ ⟨fun σ4 H4 S4 e4 ⟨y', hv', s4⟩ => ⟨y', S4, hv', e3.trans e4, s4⟩, fun v H4 S4 e4 h => o.rt v H4 S4 (gr.s.trans (e3.trans e4)) h, fun _ _ _ _ z => z.elim, fun σ4 H4 S4 e4 ⟨y', hv', s4⟩ => ⟨y', S4, hv', e3.trans e4, s4⟩, fun c d σ4 H4 S4 e4 h => o.xc c d σ4 H4 S4 (gr.s.trans (e3.trans e4)) h⟩
  · rintro σ2 H2 ⟨y, S2, hv, e, s2⟩
    exact hd y hv σ2 H2 S2 s2 D (o.grow (gr.s.trans e))

theorem ss_for {β γ : Type} {wi : TI} {g : TG} {tb : TS} {xs : List β} {ty : β → Ty} (hw : SW wi Γ C xs ty) (inv : Nat → γ → Prop) (Γi : Nat → γ → List Sl) (Ci : Nat → γ → List Cell) (g0 : γ) (hp : inv 0 g0) (h0 : leG Γ (Γi 0 g0)) (c0 : C = Ci 0 g0)
    (hb : ∀ i y b, xs[i]? = some b → inv i y → ∃ Γt vs, SG g (Γi i y) (ty b) Γt vs ∧ SS F tb Γt (Ci i y) { nx := fun σ H S => ∃ y', inv (i + 1) y' ∧ Stt F (Γi (i + 1) y') (Ci (i + 1) y') σ H S, ct := fun σ H S => ∃ y', inv (i + 1) y' ∧ Stt F (Γi (i + 1) y') (Ci (i + 1) y') σ H S, rt := O.rt, W := O.W, xc := O.xc })
    (hd : ∀ y, inv xs.length y → SS F u (Γi xs.length y) (Ci xs.length y) O) : SS F (tSeq (tFor wi g tb) u) Γ C O := ss_forz hw inv Γi Ci g0 hp h0 c0 (fun _ _ _ _ _ => trivial) hb hd

/-! comprehensions -/
def wipeG (Γ : List Sl) : List Nat → List Sl
  | [] => Γ
  | v :: vs => (wipeG Γ vs).set v none
theorem wipeG_len : ∀ {vs : List Nat}, (wipeG Γ vs).length = Γ.length
  | [] => rfl
  | v :: vs => by unfold wipeG; rw [List.length_set, wipeG_len]
theorem wipeG_get : ∀ {vs : List Nat} {j : Nat} {T : Ty}, (wipeG Γ vs)[j]? = some (some T) → Γ[j]? = some (some T) ∧ j ∉ vs
  | [], _, _, h => ⟨h, by simp⟩
  | v :: vs, j, T, h => by
    unfold wipeG at h
    by_cases hi : v = j
    · subst hi
      by_cases hv : v < (wipeG Γ vs).length
      · rw [List.getElem?_set_self hv] at h; cases h
      · rw [List.getElem?_eq_none (by simpa using hv)] at h; cases h
    · rw [List.getElem?_set_ne hi] at h
      obtain ⟨h1, h2⟩ := wipeG_get h
      exact ⟨h1, by simp only [List.mem_cons, not_or]; exact ⟨fun e => hi e.symm, h2⟩⟩
theorem Stt.wipe {σ : L2.St} {H S : Hp} (s : Stt F Γ C σ H S) (vs : List Nat) : Stt F (wipeG Γ vs) C (wipe σ vs) H S :=
  ⟨s.g, by rw [wipeG_len, wipe_length]; exact s.len, fun i T h => by
    obtain ⟨h1, h2⟩ := wipeG_get h
    obtain ⟨v, e, k⟩ := s.sl i T h1
    exact ⟨v, by rw [wipe_out h2]; exact e, k⟩, s.cl, s.can⟩
theorem st_drop {c : Cell} (h : SE true te Γ C T) : SE true te Γ (c :: C) T := fun F σ H S s Q q => h F σ H S s.drop Q q
/-- [e for x in xs if t] -/
theorem o_lcz {β : Type} {Z : Hp → Prop} {wi : TI} {g : TG} {tt : TT} {vs : List Nat} {xs : List β} {ty : β → Ty} (f : β → PyData) (keep : β → Bool) (hw : SWz wi Γ C xs ty Z) (hz : ∀ H S, CellsOk C H S → Z H) (hl : xs.length ≤ 100000)
    (hb : ∀ (i : Nat) (b : β), xs[i]? = some b → ∃ Γt ws, SG g (wipeG Γ vs) (ty b) Γt ws ∧ (∀ j ∈ ws, j ∈ vs) ∧ ST tt Γt C (keep b) ∧ (keep b = true → SE true te Γt C (tD (f b)))) : SO (tLc wi g tt te vs) Γ C ((xs.filter keep).map f) := fun F σ H S s Q q =>
  hw F σ H S s _ fun J H1 S1 gr ⟨G, Y, wk, hG, hY⟩ D hD => by
  have s1 := s.grow gr
  refine lc_it wk (fun i H2 => ∃ S2 acc, Gr0 H1 S1 H2 S2 ∧ H2 D = some (.lst acc) ∧ S2 D = none ∧ DqAll S2 acc (((xs.take i).filter keep).map f)) ⟨S1, [], Gr.alloc gr.sub hD, upd_same, same_none gr.sub hD, .nil⟩ (fun i H2 _ ⟨S2, _, g2, _⟩ => hG H2 S2 g2.s g2.sub (hz H2 S2 (s1.grow g2).cl)) ?_ ?_
  · rintro i x H2 H3 hi ⟨S2, acc, g2, hD2, nD2, hacc⟩ hy
    have hbi : xs[i]? = some xs[i] := List.getElem?_eq_getElem hi
    obtain ⟨Γt, ws, hg, hws, hk, he⟩ := hb i xs[i] hbi
    obtain ⟨S3, g3, k3⟩ := hY i xs[i] x H2 S2 H3 hbi g2.s g2.sub (hz H2 S2 (s1.grow g2).cl) hy
    have g13 := g2.trans g3
    have hD3 : H3 D = some (.lst acc) := g3.same _ _ hD2
    have nD3 : S3 D = none := g3.un hD2 nD2
    refine hg F C (wipe σ vs) H3 S3 x ((s1.grow g13).wipe vs) k3 _ fun σ' s' w' => ⟨?_, ?_⟩
    · have e1 := w' vs hws
      rw [e1]
      have : ∀ {ws : List Nat} {τ : L2.St}, (∀ j ∈ ws, τ[j]? = none ∨ τ[j]? = some none) → wipe τ ws = τ := by
        intro ws
        induction ws with
        | nil => intro τ _; rfl
        | cons w ws ih =>
          intro τ h
          unfold wipe
          rw [ih fun j hj => h j (List.mem_cons_of_mem _ hj)]
          rcases h w List.mem_cons_self with e | e
          · have hl : τ.length ≤ w := List.getElem?_eq_none_iff.mp e
            exact List.set_eq_of_length_le hl
          · obtain ⟨hl, e⟩ := List.getElem?_eq_some_iff.mp e
            rw [← e, List.set_getElem_self]
      refine this fun j hj => ?_
      have key : ∀ {ws : List Nat} {τ : L2.St}, j ∈ ws → (wipe τ ws)[j]? = none ∨ (wipe τ ws)[j]? = some none := by
        intro ws
        induction ws with
        | nil => intro τ h; cases h
        | cons w ws ih =>
          intro τ h
          unfold wipe
          by_cases e : w = j
          · subst e
            by_cases hl : w < (wipe τ ws).length
            · exact .inr (List.getElem?_set_self hl)
            · exact .inl (List.getElem?_eq_none (by simpa using hl))
          · rw [List.getElem?_set_ne e]
            exact ih ((List.mem_cons.mp h).resolve_left fun z => e z.symm)
      exact key hj
    · refine hk F σ' H3 S3 s' _ fun H4 S4 g4 => ?_
      have tk : xs.take (i + 1) = xs.take i ++ [xs[i]] := by rw [List.take_add_one, hbi]; rfl
      cases hkb : keep xs[i] with
      | false =>
        refine iteF ⟨S4, acc, g13.trans g4, g4.same _ _ hD3, g4.un hD3 nD3, ?_⟩
        rw [tk, List.filter_append, List.filter_cons, hkb]
        simp only [Bool.false_eq_true, if_false, List.filter_nil, List.append_nil]
        exact dps_mono (g3.s.trans g4.s) _ _ hacc
      | true =>
        refine iteT (he hkb F σ' H4 S4 (s'.grow g4) _ fun y H5 S5 g5 k5 => ?_)
        have hD5 : H5 D = some (.lst acc) := g5.same _ _ (g4.same _ _ hD3)
        have nD5 : S5 D = none := g5.un (g4.same _ _ hD3) (g4.un hD3 nD3)
        have g15 := (g13.trans g4).trans g5
        have hacc5 := dps_mono ((g3.s.trans g4.s).trans g5.s) _ _ hacc
        have hlen : acc.length < sizeLine := by
          have h1 := dps_len hacc
          rw [List.length_map] at h1
          have h2 := List.length_filter_le keep (xs.take i)
          rw [List.length_take] at h2
          exact Nat.lt_of_lt_of_le (show acc.length < 100001 by omega) (by decide)
        refine ⟨acc, hD5, hlen, S5, acc ++ [y], ⟨fun q u hq _ => ?_, fun q hq => ?_, g15.s, fun q u hq => ?_, g15.new⟩, upd_same, nD5, ?_⟩
        · have nq : q ≠ D := ne_of_none hq hD
          rw [upd_ne nq]; exact g15.same q u hq
        · refine g15.there q ?_
          by_cases z : q = D
          · subst z; rw [upd_same] at hq; cases hq
          · rw [upd_ne z] at hq; exact hq
        · have nq : q ≠ D := fun z => by subst z; rw [nD5] at hq; cases hq
          rw [upd_ne nq]; exact g15.sub q u hq
        · rw [tk, List.filter_append, List.filter_cons, hkb, if_pos rfl, List.filter_nil, List.map_append]
          exact dps_app hacc5 (.cons k5 .nil)
  · rintro H2 ⟨S2, acc, g2, hD2, nD2, hacc⟩
    rw [List.take_length] at hacc
    exact q D acc H2 S2 (gr.trans g2) (gr.there _ hD) hD2 nD2 hacc
theorem o_lc {β : Type} {wi : TI} {g : TG} {tt : TT} {vs : List Nat} {xs : List β} {ty : β → Ty} (f : β → PyData) (keep : β → Bool) (hw : SW wi Γ C xs ty) (hl : xs.length ≤ 100000)
    (hb : ∀ (i : Nat) (b : β), xs[i]? = some b → ∃ Γt ws, SG g (wipeG Γ vs) (ty b) Γt ws ∧ (∀ j ∈ ws, j ∈ vs) ∧ ST tt Γt C (keep b) ∧ (keep b = true → SE true te Γt C (tD (f b)))) : SO (tLc wi g tt te vs) Γ C ((xs.filter keep).map f) := o_lcz f keep hw (fun _ _ _ => trivial) hl hb
theorem t_yes : ST tYes Γ C true := fun F σ H S s Q q => q H S (Gr.refl s.sub)
/-- without a test -/
theorem o_lc0 {β : Type} {wi : TI} {g : TG} {vs : List Nat} {xs : List β} {ty : β → Ty} (f : β → PyData) (hw : SW wi Γ C xs ty) (hl : xs.length ≤ 100000)
    (hb : ∀ (i : Nat) (b : β), xs[i]? = some b → ∃ Γt ws, SG g (wipeG Γ vs) (ty b) Γt ws ∧ (∀ j ∈ ws, j ∈ vs) ∧ SE true te Γt C (tD (f b))) : SO (tLc wi g tYes te vs) Γ C (xs.map f) := by
  have h := o_lc (te := te) (tt := tYes) f (fun _ => true) hw hl fun i b e => by
    obtain ⟨Γt, ws, h1, h2, h3⟩ := hb i b e
    exact ⟨Γt, ws, h1, h2, t_yes, fun _ => h3⟩
  rwa [show xs.filter (fun _ => true) = xs by simp] at h
/-- without a test -/
theorem o_lc0z {β : Type} {Z : Hp → Prop} {wi : TI} {g : TG} {vs : List Nat} {xs : List β} {ty : β → Ty} (f : β → PyData) (hw : SWz wi Γ C xs ty Z) (hz : ∀ H S, CellsOk C H S → Z H) (hl : xs.length ≤ 100000)
    (hb : ∀ (i : Nat) (b : β), xs[i]? = some b → ∃ Γt ws, SG g (wipeG Γ vs) (ty b) Γt ws ∧ (∀ j ∈ ws, j ∈ vs) ∧ SE true te Γt C (tD (f b))) : SO (tLc wi g tYes te vs) Γ C (xs.map f) := by
  have h := o_lcz (te := te) (tt := tYes) f (fun _ => true) hw hz hl fun i b e => by
    obtain ⟨Γt, ws, h1, h2, h3⟩ := hb i b e
    exact ⟨Γt, ws, h1, h2, t_yes, fun _ => h3⟩
  rwa [show xs.filter (fun _ => true) = xs by simp] at h
end
end Sw
/-! defs of the text, their promises, calls -/
namespace Sw
open PySem L2

/-- a def as the top has laid it -/
structure Def (K : PySem.W.Frag) (mg : Str → Option Value) (x : Str) (st : Stmt) (ps : List Str) : Prop where
  ex : ∃ (f : Addr) (fd : FuncData), Fun K x x st f fd ∧ mg x = some (.ref f) ∧ ∀ us : List Value, us.length = ps.length → bindArgs fd ⟨us, []⟩ = pure (ps.zip us)
theorem def_mk {K : PySem.W.Frag} {h : Heap} {mg : Str → Option Value} {x : Str} {st : Stmt} {f : Addr} {oc : Value} {od an : Option Addr} {sl : Array (Option Value)} {kV dc pm cd ct : Value} {ps : List Str} (X : K.In h) (G : h.Ns mainGlobals mg)
    (a : PySem.W.nsIn K mainGlobals x = some (some (.ref f))) (l : K.lookup f = some ⟨oc, od, .func (PySem.W.fnOf x x (defArgs st) (defBody st) (defScope st) .none kV dc pm an cd ct), sl⟩) (c : PySem.W.codeIn K cd x = true) (k : PySem.W.keepIn K (.ref f) = true)
    (b : ∀ (kV doc pm : Value) (an : Option Addr) (cdv ct : Value) (us : List Value), us.length = ps.length → bindArgs (PySem.W.fnOf x x (defArgs st) (defBody st) (defScope st) .none kV doc pm an cdv ct) ⟨us, []⟩ = pure (ps.zip us)) : Def K mg x st ps :=
  ⟨f, _, fun_mk l c k, PySem.W.mg_of X G a, fun us hl => b kV dc pm an cd ct us hl⟩
/-- a def that keeps its promise, by its name -/
structure Cal (P : Program) (w : World) (K : PySem.W.Frag) (mg : Str → Option Value) (base : Heap) (k : Nat) (x : Str) (ps : List Str) (sp : Sp) : Prop where
  ex : ∃ (f : Addr) (fd : FuncData), FnOk P w K mg base CX0 k f fd ps sp ∧ mg x = some (.ref f) ∧ PySem.W.keepIn K (.ref f) = true ∧ ∀ us : List Value, us.length = ps.length → bindArgs fd ⟨us, []⟩ = pure (ps.zip us)
/-- a call of it -/
theorem pc {X : Cx} {j k : Nat} {x : Str} {sp : Sp} {p pos : Pos} {e : Expr} {es : List Expr} {t : TA} {ps : List Str} (c : Cal X.prog X.w X.K X.mg X.base j x ps sp) (hr : Room k X.A) (ha : PA X (e :: es) t) (hj : j ≤ k := by decide) (hg : Gl X x := by rfl)
    (hdb : (x == ("__debug__" : Str)) = false := by decide) (he : starEach (e :: es) X.env = (false, eval e X.env) :: starEach es X.env := by rfl) (hpl : (backTo pos (starEach es X.env)).any (·.1) = false := by rfl) :
    PE X (.Call (.Name x p) (e :: es) [] pos) (tCall sp [] E0 t) := by
  obtain ⟨f, fd, F, hm, hk, hb⟩ := c.ex
  exact pe_call F (hr.mono hj) hg hm hk (Binds.all hb) .nil pass0 ha hdb he hpl
theorem pc0 {X : Cx} {j k : Nat} {x : Str} {sp : Sp} {p pos : Pos} {ps : List Str} (c : Cal X.prog X.w X.K X.mg X.base j x ps sp) (hr : Room k X.A) (hj : j ≤ k := by decide) (hg : Gl X x := by rfl)
    (hdb : (x == ("__debug__" : Str)) = false := by decide) : PE X (.Call (.Name x p) [] [] pos) (tCall sp [] E0 tNil) := by
  obtain ⟨f, fd, F, hm, hk, hb⟩ := c.ex
  exact pe_call0 F (hr.mono hj) hg hm hk (Binds.all hb) .nil pass0 hdb
def gam (Ts : List Ty) (n : Nat) : List Sl := Ts.map some ++ List.replicate (n - Ts.length) none
theorem gam_ok {F : Fr0} {Ts : List Ty} {N : List Str} {vs : List V} {H S : Hp} (h : Tys S Ts vs) (g : Gr F.M F.H F.S H S) (hn : Ts.length ≤ N.length) {C : List Cell} (cl : CellsOk C H S) (can : ∀ c ∈ C, c.w = true → ∀ q, c.dom q → F.M q ∨ F.H q = none) : Stt F (gam Ts N.length) C (L2.start N vs) H S := by
  have hl := Tys.len h
  refine ⟨g, by unfold gam L2.start; simp [hl], fun i T e => ?_, cl, can⟩
  unfold gam at e
  by_cases hi : i < Ts.length
  · rw [List.getElem?_append_left (by simpa using hi), List.getElem?_map] at e
    cases e1 : Ts[i]? with
    | none => rw [e1] at e; cases e
    | some T' =>
      rw [e1] at e
      cases e
      obtain ⟨v, e2, k⟩ := Tys.get h e1
      refine ⟨v, ?_, k⟩
      unfold L2.start
      rw [List.getElem?_append_left (by rw [List.length_map, hl]; exact hi), List.getElem?_map, e2]
      rfl
  · rw [List.getElem?_append_right (by simpa using Nat.le_of_not_lt hi)] at e
    rw [List.getElem?_replicate] at e
    split at e <;> cases e
/-- what is wanted of a def that hands back a settled T -/
def retP (F : Fr0) (T : Ty) : Out := { nx := fun _ H S => Gr F.M F.H F.S H S ∧ T.ok S .non, rt := fun v H S => Gr F.M F.H F.S H S ∧ T.ok S v }
def retO (F : Fr0) (ds : List PyData) : Out := { nx := fun _ _ _ => False, rt := fun v H S => Gr F.M F.H F.S H S ∧ ∃ p vs, v = .ref p ∧ F.H p = none ∧ H p = some (.lst vs) ∧ S p = none ∧ DqAll S vs ds }
section
variable {F : Fr0} {Γ : List Sl} {C : List Cell} {te : TE} {u : TS} {T : Ty} {K : PySem.W.Frag} {ds : List PyData} {i : Nat} {p : Addr}
theorem ss_retP (he : SE true te Γ C T) : SS F (tSeq (tRet te) u) Γ C (retP F T) := ss_ret he fun _ _ _ _ s k => ⟨s.g, k⟩
theorem ss_retIs {T' : Ty} (he : SE true te Γ C T) (e : T = T') : SS F (tSeq (tRet te) u) Γ C (retP F T') := e ▸ ss_retP he
theorem ss_endN : SS F tNext Γ C (retP F (tN)) := ss_nil fun _ _ _ s => ⟨s.g, .non⟩
theorem ss_retNew (he : SO te Γ C ds) : SS F (tSeq (tRet te) u) Γ C (retO F ds) := ss_retO he fun p vs _ _ _ s h0 h1 h2 k => ⟨s.g, p, vs, rfl, h0, h1, h2, k⟩
theorem ss_retNewIs {ds' : List PyData} (he : SO te Γ C ds) (e : ds = ds') : SS F (tSeq (tRet te) u) Γ C (retO F ds') := e ▸ ss_retNew he
/-- return of an own list -/
theorem ss_retOwn (hx : Γ[i]? = some (some (tV (.ref p)))) (hn : F.H p = none) : SS F (tSeq (tRet (tVar i)) u) Γ (cL p ds :: C) (retO F ds) := fun σ H S s D o => by
  obtain ⟨v, ev, kv⟩ := s.sl i _ hx
  have kv : v = .ref p := kv
  subst kv
  obtain ⟨ob, h1, h2, vs, rfl, h3⟩ := s.cl.one List.mem_cons_self
  exact ⟨_, ev, o.rt _ H S (Same.refl S) ⟨s.g, p, vs, rfl, hn, h1, h2, h3⟩⟩
theorem ss_retOwnIs {ds' : List PyData} (hx : Γ[i]? = some (some (tV (.ref p)))) (hn : F.H p = none) (e : ds = ds') : SS F (tSeq (tRet (tVar i)) u) Γ (cL p ds :: C) (retO F ds') := e ▸ ss_retOwn hx hn
end
section
variable {P : Program} {w : World} {K : PySem.W.Frag} {mg : Str → Option Value} {base : Heap} {x : Str} {st : Stmt} {N ps : List Str} {k : Nat} {α : Type} {args : α → List Ty} {cond : α → Prop}
theorem fnk_P {res : α → Ty} {f : Addr} {fd : FuncData} (Fn : Fun K x x st f fd) (sc : FnScope N ps (defScope st)) (hlen : ∀ a, (args a).length = ps.length)
    (body : ∀ (cdv : Value) (A : Around) (outer : List Env) (s : Shared) (H : Hp) (E : XK), Room k (A.deeper (PyProof.Rows.envOfC x (defScope st) s.heap.objs.size f cdv)) →
      ∃ t, PSs (cxOf CX0 P w K mg base N x (defScope st) f cdv A outer s H E).nox (defBody st) t ∧ ∀ (a : α) (F : Fr0), F.M = M0 → cond a → SS F t (gam (args a) N.length) [] (retP F (res a))) : FnOk P w K mg base CX0 (k + 1) f fd ps (spP args cond res) := by
  have hpl : ps.length ≤ N.length := by have := congrArg List.length sc.pre; rw [List.length_take] at this; omega
  refine Fn.ok sc (fun vs H Q E h => ?_) (fun cdv A outer s H vs Q E hr h => ?_)
  · obtain ⟨a, S, _, h, _⟩ := h
    rw [Tys.len h, hlen]
  · obtain ⟨a, S, hS, ht, hc, q⟩ := h
    obtain ⟨t, h1, h2⟩ := body cdv A outer s H E hr
    refine ⟨t, h1, h2 a ⟨M0, H, S⟩ rfl hc _ H S (gam_ok ht (Gr.refl hS) (by rw [hlen]; exact hpl) .nil (fun _ z => (nomatch z))) _ ⟨fun σ H' S' _ h => q _ H' S' h.1 h.2, fun v H' S' _ h => q _ H' S' h.1 h.2, fun _ _ _ _ z => z.elim, fun _ _ _ _ z => z.elim, fun _ _ _ _ _ _ z => z.elim⟩⟩
theorem fn_P {res : α → Ty} (D : Def K mg x st ps) (sc : FnScope N ps (defScope st)) (hlen : ∀ a, (args a).length = ps.length)
    (body : ∀ (f : Addr) (cdv : Value) (A : Around) (outer : List Env) (s : Shared) (H : Hp) (E : XK), Room k (A.deeper (PyProof.Rows.envOfC x (defScope st) s.heap.objs.size f cdv)) →
      ∃ t, PSs (cxOf CX0 P w K mg base N x (defScope st) f cdv A outer s H E).nox (defBody st) t ∧ ∀ (a : α) (F : Fr0), F.M = M0 → cond a → SS F t (gam (args a) N.length) [] (retP F (res a))) : Cal P w K mg base (k + 1) x ps (spP args cond res) := by
  obtain ⟨f, fd, Fn, hm, hb⟩ := D.ex
  exact ⟨f, fd, fnk_P Fn sc hlen (body f), hm, Fn.kp, hb⟩
theorem fn_O {res : α → List PyData} (D : Def K mg x st ps) (sc : FnScope N ps (defScope st)) (hlen : ∀ a, (args a).length = ps.length)
    (body : ∀ (f : Addr) (cdv : Value) (A : Around) (outer : List Env) (s : Shared) (H : Hp) (E : XK), Room k (A.deeper (PyProof.Rows.envOfC x (defScope st) s.heap.objs.size f cdv)) →
      ∃ t, PSs (cxOf CX0 P w K mg base N x (defScope st) f cdv A outer s H E).nox (defBody st) t ∧ ∀ (a : α) (F : Fr0), F.M = M0 → cond a → SS F t (gam (args a) N.length) [] (retO F (res a))) : Cal P w K mg base (k + 1) x ps (spO args cond res) := by
  obtain ⟨f, fd, Fn, hm, hb⟩ := D.ex
  have hpl : ps.length ≤ N.length := by have := congrArg List.length sc.pre; rw [List.length_take] at this; omega
  refine ⟨f, fd, Fn.ok sc (fun vs H Q E h => ?_) (fun cdv A outer s H vs Q E hr h => ?_), hm, Fn.kp, hb⟩
  · obtain ⟨a, S, _, h, _⟩ := h
    rw [Tys.len h, hlen]
  · obtain ⟨a, S, hS, ht, hc, q⟩ := h
    obtain ⟨t, h1, h2⟩ := body f cdv A outer s H E hr
    refine ⟨t, h1, h2 a ⟨M0, H, S⟩ rfl hc _ H S (gam_ok ht (Gr.refl hS) (by rw [hlen]; exact hpl) .nil (fun _ z => (nomatch z))) _ ⟨fun σ H' S' _ h => h.elim, fun v H' S' _ h => ?_, fun _ _ _ _ z => z.elim, fun _ _ _ _ z => z.elim, fun _ _ _ _ _ _ z => z.elim⟩⟩
    obtain ⟨g, p, us, rfl, h0, h1, h2, h3⟩ := h
    exact q p us H' S' g h0 h1 h2 h3
end
/-- the script: a list of whole numbers that is only read -/
def Scr (K : PySem.W.Frag) (S : Hp) (a : Addr) (ns : List Int) : Prop := (∃ o, S a = some (.frz o (.lst (ns.map V.int)))) ∨ ∀ H, SqL K H a (ns.map V.int)
theorem Scr.seq {K : PySem.W.Frag} {S : Hp} {a : Addr} {ns : List Int} (h : Scr K S a ns) : SqL K S a (ns.map V.int) := by
  rcases h with ⟨o, h⟩ | h
  · exact .inl (.inr ⟨o, h⟩)
  · exact h S
def tScr (K : PySem.W.Frag) (ns : List Int) : Ty := ⟨fun S v => ∃ a, v = .ref a ∧ Scr K S a ns, fun e ⟨a, h1, h2⟩ => ⟨a, h1, by
  rcases h2 with ⟨o, h⟩ | h
  · exact .inl ⟨o, e _ _ h⟩
  · exact .inr h⟩⟩
theorem r_ixScr {K : PySem.W.Frag} {m : Bool} {ns : List Int} {i j : Int} (e : atI ns i = some j) : R2k m (rIxL K) (tScr K ns) (tI i) (tI j) := fun x y H S s hx hy Q q => by
  obtain ⟨a, rfl, h1⟩ := hx
  rw [dp_int hy]
  refine ⟨a, _, i, .int j, rfl, rfl, (vw_sub s).seq h1.seq, ?_, q _ H S (Gr.refl s) (.int j)⟩
  unfold atI at e ⊢
  rw [List.length_map]
  cases hn : ixN ns.length i with
  | none => rw [hn] at e; cases e
  | some k =>
    rw [hn] at e
    have e : ns[k]? = some j := e
    show (ns.map V.int)[k]? = some (.int j)
    rw [List.getElem?_map, e]
    rfl
theorem c_lenScr {K : PySem.W.Frag} {m : Bool} {ns : List Int} : RCk m (rLenS K) [tScr K ns] (tI (ns.length : Int)) := fun vs H S s h Q q => by
  obtain ⟨v, rfl, a, rfl, h1⟩ := tys1 h
  exact ⟨a, _, rfl, .inl ((vw_sub s).seq h1.seq), by rw [List.length_map]; exact q _ H S (Gr.refl s) (.int _)⟩
theorem scr_of {K : PySem.W.Frag} {H : Hp} {a : Addr} {ns : List Int} (hO : Only H) (hS : SqL K H a (ns.map V.int)) : Scr K H a ns := by
  rcases hS with (h | ⟨o, h⟩) | h
  · rcases hO a with z | ⟨o, xs, z⟩
    · rw [z] at h; cases h
    · rw [z] at h; cases h
  · exact .inl ⟨o, h⟩
  · exact .inr fun _ => .inr h
/-- the law's own promise -/
abbrev spLaw (K : PySem.W.Frag) : Sp := spP (fun ns : List Int => [tScr K ns]) (fun ns => ns.length ≤ 63) (fun _ => tBo true)
theorem law_F {l : PySem.W.OpenLaw} {w : World} {K : PySem.W.Frag} {mg : Str → Option Value} {fa : Addr} {k : Nat} {st : Stmt} {N : List Str} (hfa : mg "law" = some (.ref fa)) (D : Def K mg "law" st ["script"]) (sc : FnScope N ["script"] (defScope st))
    (body : ∀ (base : Heap) (f : Addr) (cdv : Value) (A : Around) (outer : List Env) (s : Shared) (H : Hp) (E : XK), Room k (A.deeper (PyProof.Rows.envOfC "law" (defScope st) s.heap.objs.size f cdv)) →
      ∃ t, PSs (cxOf CX0 l.prog w K mg base N "law" (defScope st) f cdv A outer s H E).nox (defBody st) t ∧ ∀ (ns : List Int) (F : Fr0), F.M = M0 → ns.length ≤ 63 → SS F t (gam [tScr K ns] N.length) [] (retP F (tBo true))) :
    ∃ fd : FuncData, (∀ (s : Shared) (v : Value), BindsTo s fd ⟨[v], []⟩ [("script", v)]) ∧ ∀ base : Heap, K.In base → base.Ns mainGlobals mg → FnOk l.prog w K mg base CX0 (k + 1) fa fd ["script"] (spLaw K) := by
  obtain ⟨f, fd, Fn, hm, hb⟩ := D.ex
  have e := hfa.symm.trans hm
  cases e
  exact ⟨fd, fun s v => .of_eq (hb [v] rfl), fun base _ _ => fnk_P Fn sc (fun _ => rfl) (body base fa)⟩
theorem law_walk {l : PySem.W.OpenLaw} {q : Program} {loose : List Str} {XP : (Str → Option Value) → Heap → Prop} {YP : World → Heap → Prop} {d : DefRec} {K : Params → PySem.W.Frag} {k : Nat} (hn : l.most = some 63) (hdf : d.params.defaults = []) (hr : Room k PySem.callerA)
    (hY : ∀ (w : World) (h : Heap), YP w h → (K w.params).In h)
    (F : ∀ (w : World) (mg : Str → Option Value) (fa : Addr) (h : Heap), (K w.params).In h → h.Ns mainGlobals mg → mg d.name = some (.ref fa) →
      ∃ fd : FuncData, (∀ (s : Shared) (u : Value), BindsTo s fd ⟨[u], []⟩ [("script", u)]) ∧ ∀ base : Heap, (K w.params).In base → base.Ns mainGlobals mg → FnOk l.prog w (K w.params) mg base CX0 k fa fd ["script"] (spLaw (K w.params))) :
    PySem.W.WalkO q loose XP YP l.row.toRowW d [] (fun f vs => PySem.call f vs) :=
  L2.walk_of (n := 63) (k := k) (x := "script") (CX := fun _ => CX0) (sp := fun w => spLaw (K w.params)) hn (by decide) hdf hr hY F
    (fun w H a ns hl hO hS => ⟨ns, H, Same.refl H, ⟨⟨a, rfl, scr_of hO hS⟩, trivial⟩, hl, fun v H' S' _ h => dp_bl h⟩) fun _ _ _ _ _ z => z
end Sw
/-! further rules -/
namespace Sw
open PySem L2
/-! the layer's rules, their K named -/
section
variable (K : PySem.W.Frag) {X : Cx} {e o a b : Expr} {es : List Expr} {te to ta tb : TE} {t : TA} {pos p : Pos} {tg : Expr}
theorem kIxL (hK : X.K = K := by rfl) : IxR X (rIxL K) := hK ▸ ix_list
theorem kIxT (hK : X.K = K := by rfl) : IxR X (rIxT K) := hK ▸ ix_tup
theorem kSlL (hK : X.K = K := by rfl) : SlR X (rSlL K) := hK ▸ sl_list
theorem kSlT (hK : X.K = K := by rfl) : SlR X (rSlT K) := hK ▸ sl_tup
theorem kList (hK : X.K = K := by rfl) : CallR X (.type "list") (rListS K) := hK ▸ call_list_of
theorem kLen (hK : X.K = K := by rfl) : CallR X (.builtin "len") (rLenS K) := hK ▸ call_len_seq
theorem kEq (hu : X.A.units + 64 < cLine) (hK : X.K = K := by rfl) : OpR X (compareOp .Eq) (rEqD K) := hK ▸ op_eqD hu
theorem kNe (hu : X.A.units + 64 < cLine) (hK : X.K = K := by rfl) : OpR X (compareOp .NotEq) (rNeD K) := hK ▸ op_neD hu
theorem kIn (hK : X.K = K := by rfl) : OpR X (compareOp .In) (rIn K false) := hK ▸ op_in_seq
theorem kNi (hK : X.K = K := by rfl) : OpR X (compareOp .NotIn) (rIn K true) := hK ▸ op_notIn_seq
theorem kAll (hc : X.calm = true) (hK : X.K = K := by rfl) : CallR X (.builtin "all") (rAll K) := hK ▸ cr_all hc
theorem kAny (hc : X.calm = true) (hK : X.K = K := by rfl) : CallR X (.builtin "any") (rAny K) := hK ▸ cr_any hc
theorem kIsi (hK : X.K = K := by rfl) : CallR X (.builtin "isinstance") (rIsi K) := hK ▸ call_isi
theorem kSorted (hK : X.K = K := by rfl) : CallR X (.builtin "sorted") (rSorted K) := hK ▸ cr_sorted
theorem kpList (h : PE X e te) (hK : X.K = K := by rfl) : PI X tg e (iList K te) := hK ▸ pi_list h
theorem kpTup (h : PE X e te) (hK : X.K = K := by rfl) : PI X tg e (iTup K te) := hK ▸ pi_tup h
theorem kpZip {e2 : Expr} {elts : List Expr} {kk : Nat} {tpos : Pos} (hm : X.mg "zip" = none) (ha : PA X [e, e2] t) (hg : Gl X "zip" := by rfl) (hK : X.K = K := by rfl) (hs : starEach [e, e2] X.env = (false, eval e X.env) :: starEach [e2] X.env := by rfl) (hpl : (backTo pos (starEach [e2] X.env)).any (·.1) = false := by rfl) : PI X (.Tuple elts kk tpos) (.Call (.Name "zip" p) [e, e2] [] pos) (iZip K t) := hK ▸ pi_zip hg hm ha hs hpl
theorem kpEnum {elts : List Expr} {kk : Nat} {tpos : Pos} (hm : X.mg "enumerate" = none) (ha : PA X [e] t) (hg : Gl X "enumerate" := by rfl) (hK : X.K = K := by rfl) (hs : starEach [e] X.env = [(false, eval e X.env)] := by rfl) : PI X (.Tuple elts kk tpos) (.Call (.Name "enumerate" p) [e] [] pos) (iEnum K t) := hK ▸ pi_enum hg hm ha hs
theorem kpRev (hm : X.mg "reversed" = none) (ha : PA X [e] t) (hg : Gl X "reversed" := by rfl) (hK : X.K = K := by rfl) (hs : starEach [e] X.env = [(false, eval e X.env)] := by rfl) : PI X tg (.Call (.Name "reversed" p) [e] [] pos) (iRev K t) := hK ▸ pi_reversed hg hm ha hs
theorem kBM {T : String} {r : V → List V → Hp → VK → Prop} (h : PE X e (tBM X.K T r to t)) (hK : X.K = K := by rfl) : PE X e (tBM K T r to t) := hK ▸ h
theorem kBM0 {T : String} {r : V → List V → Hp → VK → Prop} (h : PE X e (tBM0 X.K T r to)) (hK : X.K = K := by rfl) : PE X e (tBM0 K T r to) := hK ▸ h
theorem kgTup (n : Nat) {k : Nat} {gs : TGs} (hc : X.calm = true) (h : PGs X es gs) (hn : (assignEach es X.env).length = n := by rfl) (hst : (assignEach es X.env).findIdx? (·.1) = none := by rfl) (hK : X.K = K := by rfl) : PG X (.Tuple es k pos) (gTup K n gs) := hK ▸ pg_tup hc h hn hst
theorem kgUnl (n : Nat) {k : Nat} {gs : TGs} (hc : X.calm = true) (h : PGs X es gs) (hn : (assignEach es X.env).length = n := by rfl) (hst : (assignEach es X.env).findIdx? (·.1) = none := by rfl) (hK : X.K = K := by rfl) : PG X (.Tuple es k pos) (gUnl K n gs) := hK ▸ pg_unl hc h hn hst
theorem kFld {f : Str} (he : PE X e te) (hb : attributeBase e f X.env (eval e X.env) = eval e X.env := by rfl) (hK : X.K = K := by rfl) : PE X (.Attribute e f pos) (tFld K te f) := hK ▸ pe_fld he hb
theorem kSetF {f : Str} {value : Expr} {tv : TE} {pos' : Pos} (ha : PE X o ta) (hv : PE X value tv) (hs : swapsWith value (some (.Attribute o f pos')) pos.line X.env = pure false := by rfl) (hK : X.K = K := by rfl) : PS X (.Assign [.Attribute o f pos'] value pos) (sFld K ta tv f) := hK ▸ ps_fld ha hv hs
end
section
variable {K : PySem.W.Frag} {m : Bool} {Γ Γ' : List Sl} {C : List Cell} {ta tb te tx : TE} {T : Ty} {F : Fr0} {b : Bool}
/-- the type's name of a datum -/
def tyN : PyData → String
  | .none => "NoneType"
  | .bool _ => "bool"
  | .int _ => "int"
  | .str _ => "str"
  | .list _ => "list"
  | .tuple _ => "tuple"
  | .dict _ => "dict"
theorem tyX_l {H : Hp} {a : Addr} {xs : List V} (h : SqL K H a xs) : TyX K H (.ref a) (.type "list") := by
  rcases h with (h | ⟨o, h⟩) | ⟨o, its, n, h, c, _⟩
  · exact .base (.lst h)
  · exact .base (.frz h)
  · exact .kList h c
theorem tyX_t {H : Hp} {a : Addr} {xs : List V} (h : SqT K H a xs) : TyX K H (.ref a) (.type "tuple") := by
  rcases h with (h | ⟨o, h⟩) | ⟨o, its, n, h, c, _⟩
  · exact .base (.tup h)
  · exact .fTuple h
  · exact .kTuple h c
theorem tyX_d {H : Hp} {v : V} {d : PyData} (h : Dp K H v d) : TyX K H v (.type (tyN d)) := by
  cases h with
  | non => exact .base .non
  | bl b => exact .base (.bl b)
  | int i => exact .base (.int i)
  | str x => exact .base (.str x)
  | lst h _ => exact tyX_l h
  | tup h _ => exact tyX_t h
/-- isinstance(x, T), T built in -/
theorem e_isi {d : PyData} {n : String} (h : SE true tx Γ C (tD d)) (hk : kitB (tyN d) n = some b) : SE true (tCB (rIsi K) (tCons tx (tCons (tC (.ty n)) tNil))) Γ C (tBo b) := fun F σ H S s Q q =>
  h F σ H S s _ fun v H1 S1 g k => ⟨v, .ty n, _, _, b, rfl, .ty n, tyX_d (dq_dp _ _ (dp_mono g.sub _ _ k)), kit_ty hk, q _ H1 S1 g (.bl b)⟩
def isInt : PyData → Bool
  | .int _ | .bool _ => true
  | _ => false
def isBool : PyData → Bool
  | .bool _ => true
  | _ => false
def isList : PyData → Bool
  | .list _ => true
  | _ => false
def isTuple : PyData → Bool
  | .tuple _ => true
  | _ => false
theorem kit_int : ∀ {d : PyData}, kitB (tyN d) "int" = some (isInt d)
  | .none => (by decide +kernel : kitB "NoneType" "int" = some false)
  | .bool _ => (by decide +kernel : kitB "bool" "int" = some true)
  | .int _ => (by decide +kernel : kitB "int" "int" = some true)
  | .str _ => (by decide +kernel : kitB "str" "int" = some false)
  | .list _ => (by decide +kernel : kitB "list" "int" = some false)
  | .tuple _ => (by decide +kernel : kitB "tuple" "int" = some false)
  | .dict _ => (by decide +kernel : kitB "dict" "int" = some false)
theorem kit_bool : ∀ {d : PyData}, kitB (tyN d) "bool" = some (isBool d)
  | .none => (by decide +kernel : kitB "NoneType" "bool" = some false)
  | .bool _ => (by decide +kernel : kitB "bool" "bool" = some true)
  | .int _ => (by decide +kernel : kitB "int" "bool" = some false)
  | .str _ => (by decide +kernel : kitB "str" "bool" = some false)
  | .list _ => (by decide +kernel : kitB "list" "bool" = some false)
  | .tuple _ => (by decide +kernel : kitB "tuple" "bool" = some false)
  | .dict _ => (by decide +kernel : kitB "dict" "bool" = some false)
theorem kit_list : ∀ {d : PyData}, kitB (tyN d) "list" = some (isList d)
  | .none => (by decide +kernel : kitB "NoneType" "list" = some false)
  | .bool _ => (by decide +kernel : kitB "bool" "list" = some false)
  | .int _ => (by decide +kernel : kitB "int" "list" = some false)
  | .str _ => (by decide +kernel : kitB "str" "list" = some false)
  | .list _ => (by decide +kernel : kitB "list" "list" = some true)
  | .tuple _ => (by decide +kernel : kitB "tuple" "list" = some false)
  | .dict _ => (by decide +kernel : kitB "dict" "list" = some false)
theorem kit_tuple : ∀ {d : PyData}, kitB (tyN d) "tuple" = some (isTuple d)
  | .none => (by decide +kernel : kitB "NoneType" "tuple" = some false)
  | .bool _ => (by decide +kernel : kitB "bool" "tuple" = some false)
  | .int _ => (by decide +kernel : kitB "int" "tuple" = some false)
  | .str _ => (by decide +kernel : kitB "str" "tuple" = some false)
  | .list _ => (by decide +kernel : kitB "list" "tuple" = some false)
  | .tuple _ => (by decide +kernel : kitB "tuple" "tuple" = some true)
  | .dict _ => (by decide +kernel : kitB "dict" "tuple" = some false)
theorem r_isB {i j : Bool} : R2k m rIsB (tBo i) (tBo j) (tBo (decide (i = j))) := fun x y H S s hx hy Q q => by
  rw [dp_bl hx, dp_bl hy]; exact ⟨i, j, rfl, rfl, q _ H S (Gr.refl s) (.bl _)⟩
theorem r_notB {i j : Bool} : R2k m rNotB (tBo i) (tBo j) (tBo (!decide (i = j))) := fun x y H S s hx hy Q q => by
  rw [dp_bl hx, dp_bl hy]; exact ⟨i, j, rfl, rfl, q _ H S (Gr.refl s) (.bl _)⟩
/-- comprehensions of whole numbers, of truth values -/
theorem o_lcI {β : Type} {wi : TI} {g : TG} {vs : List Nat} {xs : List β} {ty : β → Ty} (f : β → Int) (hw : SW wi Γ C xs ty) (hl : xs.length ≤ 100000)
    (hb : ∀ (i : Nat) (b : β), xs[i]? = some b → ∃ Γt ws, SG g (wipeG Γ vs) (ty b) Γt ws ∧ (∀ j ∈ ws, j ∈ vs) ∧ SE true te Γt C (tI (f b))) : SO (tLc wi g tYes te vs) Γ C ((xs.map f).map .int) := by
  rw [List.map_map]
  exact o_lc0 (fun b => .int (f b)) hw hl hb
theorem o_lcB {β : Type} {wi : TI} {g : TG} {vs : List Nat} {xs : List β} {ty : β → Ty} (f : β → Bool) (hw : SW wi Γ C xs ty) (hl : xs.length ≤ 100000)
    (hb : ∀ (i : Nat) (b : β), xs[i]? = some b → ∃ Γt ws, SG g (wipeG Γ vs) (ty b) Γt ws ∧ (∀ j ∈ ws, j ∈ vs) ∧ SE true te Γt C (tBo (f b))) : SO (tLc wi g tYes te vs) Γ C ((xs.map f).map .bool) := by
  rw [List.map_map]
  exact o_lc0 (fun b => .bool (f b)) hw hl hb
/-! lists: + and * -/
theorem o_cat {ds es : List PyData} (ha : SE true ta Γ C (tLs ds)) (hb : SE true tb Γ C (tLs es)) (hl : ds.length + es.length ≤ 100000) : SO (tOp rCat ta tb) Γ C (ds ++ es) := fun F σ H S s Q q =>
  ha F σ H S s _ fun x H1 S1 g1 k1 => hb F σ H1 S1 (s.grow g1) _ fun y H2 S2 g2 k2 => by
    obtain ⟨a, xs, rfl, h1, h2⟩ := dp_lst (dp_mono g2.s _ _ k1)
    obtain ⟨b, ys, rfl, h1', h2'⟩ := dp_lst k2
    refine ⟨a, b, xs, ys, rfl, rfl, g2.sub _ _ h1, g2.sub _ _ h1', by rw [dps_len h2, dps_len h2']; exact Nat.le_trans hl (by decide), fun p hp => ?_⟩
    have g := g1.trans g2
    have g3 := Gr.alloc (M := M0) g.sub (o := .lst (xs ++ ys)) hp
    exact q p _ _ _ (g.trans g3) (g.there _ hp) upd_same (same_none g.sub hp) (dps_app h2 h2')
theorem dps_rep {H : Hp} {ds : List PyData} {vs : List V} (h : DqAll H vs ds) : ∀ k : Nat, DqAll H (List.replicate k vs).flatten (List.replicate k ds).flatten
  | 0 => .nil
  | k + 1 => by
    rw [List.replicate_succ, List.replicate_succ, List.flatten_cons, List.flatten_cons]
    exact dps_app h (dps_rep h k)
theorem o_rep {ds : List PyData} {k : Int} (ha : SE true ta Γ C (tLs ds)) (hb : SE true tb Γ C (tI k)) (hk : -(2 ^ 63) ≤ k ∧ k < 2 ^ 63) (hl : ds.length * k.toNat ≤ 100000) : SO (tOp rRep ta tb) Γ C (List.replicate k.toNat ds).flatten := fun F σ H S s Q q =>
  ha F σ H S s _ fun x H1 S1 g1 k1 => hb F σ H1 S1 (s.grow g1) _ fun y H2 S2 g2 k2 => by
    obtain ⟨a, xs, rfl, h1, h2⟩ := dp_lst (dp_mono g2.s _ _ k1)
    refine ⟨a, k, xs, rfl, dp_int k2, g2.sub _ _ h1, hk.1, hk.2, by rw [dps_len h2]; exact Nat.le_trans hl (by decide), fun p hp => ?_⟩
    have g := g1.trans g2
    have g3 := Gr.alloc (M := M0) g.sub (o := .lst (List.replicate k.toNat xs).flatten) hp
    exact q p _ _ _ (g.trans g3) (g.there _ hp) upd_same (same_none g.sub hp) (dps_rep h2 _)
theorem flat_one {α : Type} (x : α) : ∀ k : Nat, (List.replicate k [x]).flatten = List.replicate k x
  | 0 => rfl
  | k + 1 => by rw [List.replicate_succ, List.flatten_cons, flat_one x k]; rfl
/-- [x] * k -/
theorem o_rep1 {d : PyData} {k : Int} (ha : SE true ta Γ C (tD d)) (hb : SE true tb Γ C (tI k)) (hk : k ≤ 100000) (hk0 : -100000 ≤ k) : SO (tOp rRep (tLst (tCons ta tNil)) tb) Γ C (List.replicate k.toNat d) := by
  have h := o_rep (ds := [d]) (e_lst (ad_cons ha ad_nil) (by simp)) hb (by omega) (by simp; omega)
  rwa [flat_one] at h
/-- the branches join, what they make left open -/
theorem ss_ifE {γ : Type} {c : TT} {t1 t2 u : TS} {O : Out} (inv : γ → Prop) (Γ' : γ → List Sl) (C' : γ → List Cell) (hc : ST c Γ C b) (h1 : b = true → SS F t1 Γ C { O with nx := fun σ H S => ∃ y, inv y ∧ Stt F (Γ' y) (C' y) σ H S })
    (h2 : b = false → SS F t2 Γ C { O with nx := fun σ H S => ∃ y, inv y ∧ Stt F (Γ' y) (C' y) σ H S }) (h : ∀ y, inv y → SS F u (Γ' y) (C' y) O) :
    SS F (tSeq (tIfS c t1 t2) u) Γ C O := fun σ H S s D o => hc F σ H S s _ fun H1 S1 g => by
  have o' : OutOk S1 { O with nx := fun σ H S => ∃ y, inv y ∧ Stt F (Γ' y) (C' y) σ H S } { D with nx := u D } :=
    ⟨fun σ H2 S2 e ⟨y, hy, s⟩ => h y hy σ H2 S2 s D ((o.grow g.s).grow e), (o.grow g.s).rt, (o.grow g.s).bk, (o.grow g.s).ct, (o.grow g.s).xc⟩
  cases b with
  | true => exact iteT (h1 rfl σ H1 S1 (s.grow g) _ o')
  | false => exact iteF (h2 rfl σ H1 S1 (s.grow g) _ o')
theorem ss_forget {t : TS} {c : Cell} {O : Out} (h : SS F t Γ C O) : SS F t Γ (c :: C) O := fun σ H S s D o => h σ H S s.drop D o
theorem ss_swap {t : TS} {a b : Cell} {O : Out} (h : SS F t Γ (b :: a :: C) O) : SS F t Γ (a :: b :: C) O := ss_perm (List.Perm.swap b a C) h
end
theorem leG_un {Γ : List Sl} : leG Γ (Γ.map fun _ => none) := by
  induction Γ with
  | nil => trivial
  | cons a r ih => exact ⟨.inl rfl, ih⟩
end Sw
/-! promises with cells: what a def reads, writes, hands back -/
namespace Sw
open PySem L2

/-- a tuple, a list of such values -/
def tTV (Ts : List Ty) : Ty := ⟨fun S v => ∃ a vs, v = .ref a ∧ S a = some (.tup vs) ∧ Tys S Ts vs, fun e ⟨a, vs, h1, h2, h3⟩ => ⟨a, vs, h1, e _ _ h2, Tys.mono e h3⟩⟩
def tLV (Ts : List Ty) : Ty := ⟨fun S v => ∃ a vs, v = .ref a ∧ S a = some (.lst vs) ∧ Tys S Ts vs, fun e ⟨a, vs, h1, h2, h3⟩ => ⟨a, vs, h1, e _ _ h2, Tys.mono e h3⟩⟩

inductive Pk : List Cell → Cell → List Cell → Prop
  | here {c : Cell} {C : List Cell} : Pk (c :: C) c C
  | there {c x : Cell} {C C' : List Cell} : Pk C c C' → Pk (x :: C) c (x :: C')
inductive Pks : List Cell → List Cell → List Cell → Prop
  | nil {C : List Cell} : Pks C [] C
  | cons {c : Cell} {cs C C1 C2 : List Cell} : Pk C c C1 → Pks C1 cs C2 → Pks C (c :: cs) C2
theorem Pk.perm {c : Cell} {C C' : List Cell} (h : Pk C c C') : C.Perm (c :: C') := by
  induction h with
  | here => exact .refl _
  | there _ ih => exact (ih.cons _).trans (.swap _ _ _)
theorem Pks.perm {cs C C' : List Cell} (h : Pks C cs C') : C.Perm (cs ++ C') := by
  induction h with
  | nil => exact .refl _
  | cons h _ ih => exact h.perm.trans (ih.cons _)
theorem CellsOk.left {A B : List Cell} {H S : Hp} (k : CellsOk (A ++ B) H S) : CellsOk A H S := ⟨fun c h => k.at_ c (List.mem_append_left _ h), (List.pairwise_append.mp k.nd).1⟩
theorem CellsOk.right {A B : List Cell} {H S : Hp} (k : CellsOk (A ++ B) H S) : CellsOk B H S := (k.perm List.perm_append_comm).left
theorem CellsOk.ro {C : List Cell} {H S : Hp} : CellsOk (C.map Cell.ro) H S ↔ CellsOk C H S :=
  ⟨fun k => ⟨fun c h => k.at_ c.ro (List.mem_map.mpr ⟨c, h, rfl⟩), (List.pairwise_map (f := Cell.ro) (R := Apart)).mp k.nd⟩, fun k => ⟨fun c h => by
    obtain ⟨c0, h0, rfl⟩ := List.mem_map.mp h
    exact k.at_ c0 h0, List.pairwise_map.mpr k.nd⟩⟩
def wrs (cs : List Cell) : Addr → Prop := fun q => ∃ c ∈ cs, c.dom q
theorem wrs_nil {q : Addr} : ¬ wrs [] q := fun ⟨_, h, _⟩ => (nomatch h)
/-- a promise -/
structure Pr (α ρ : Type) where
  args : α → List Ty
  cond : α → Prop := fun _ => True
  rd : α → List Cell := fun _ => []
  cin : α → List Cell := fun _ => []
  post : α → ρ → Prop := fun _ _ => True
  res : α → ρ → Ty
  cout : α → ρ → List Cell := fun _ _ => []
  /-- the new ones -/
  nw : α → ρ → Addr → Prop := fun _ _ _ => False
  /-- the class that is raised -/
  exc : α → Option Value := fun _ => none
section
variable {α ρ : Type}
structure Res (p : Pr α ρ) (a : α) (H S : Hp) (y : ρ) (v : V) (H' S' : Hp) : Prop where
  post : p.post a y
  g : Gr (wrs (p.cin a)) H S H' S'
  res : (p.res a y).ok S' v
  cl : CellsOk (p.cout a y) H' S'
  nw : ∀ q, p.nw a y q → H q = none
  fr : ∀ c ∈ p.cout a y, ∀ q, c.dom q → wrs (p.cin a) q ∨ p.nw a y q
def spG (p : Pr α ρ) : Sp := fun vs H Q E => ∃ (a : α) (S : Hp), Same S H ∧ Tys S (p.args a) vs ∧ p.cond a ∧ CellsOk (p.rd a ++ p.cin a) H S ∧
  (p.exc a = none → ∀ y v H' S', Res p a H S y v H' S' → Q v H') ∧ (∀ c, p.exc a = some c → ∀ d H' S', Gr (wrs (p.cin a)) H S H' S' → E c d H')
end
/-- an expression that may change cells -/
def SM {ρ : Type} (te : TE) (Γ : List Sl) (C : List Cell) (post : ρ → Prop) (T : ρ → Ty) (C' : ρ → List Cell) (N : ρ → Addr → Prop) : Prop := ∀ (F : Fr0) (σ : L2.St) (H S : Hp), Stt F Γ C σ H S → ∀ Q : VK,
  (∀ y v H' S', post y → Same S S' → (T y).ok S' v → (∀ q, N y q → F.H q = none) → Stt F Γ (C' y) σ H' S' → Q v H') → te σ H Q
section
variable {F : Fr0} {Γ Γ' : List Sl} {C C' Cr Cq cs : List Cell} {σ : L2.St} {H S H1 S1 : Hp} {te : TE} {T T' : Ty} {O : Out} {u : TS} {i : Nat} {K : PySem.W.Frag} {m : Bool}
theorem CellsOk.pick (k : CellsOk C H S) {cin rd : List Cell} (hw : Pks C cin Cr) (hr : Pks (Cr.map Cell.ro) (rd.map Cell.ro) Cq) : CellsOk (rd ++ cin) H S := by
  have k1 := CellsOk.ro.mpr (k.perm hw.perm)
  rw [List.map_append] at k1
  have k2 := k1.perm (List.Perm.append_left _ hr.perm)
  rw [← List.append_assoc] at k2
  have k3 := k2.left.perm List.perm_append_comm
  rw [← List.map_append] at k3
  exact CellsOk.ro.mp k3
/-- behind a call -/
theorem Stt.call (s : Stt F Γ C σ H S) {cin cout : List Cell} (hw : Pks C cin Cr) (hwt : ∀ c ∈ cin, c.w = true) {nw : Addr → Prop} (g : Gr (wrs cin) H S H1 S1) (cl : CellsOk cout H1 S1) (hn : ∀ q, nw q → H q = none) (fr : ∀ c ∈ cout, ∀ q, c.dom q → wrs cin q ∨ nw q) : Stt F Γ (cout ++ Cr) σ H1 S1 := by
  have s0 := s.perm hw.perm
  obtain ⟨_, ndr, dis⟩ := List.pairwise_append.mp s0.cl.nd
  have cin_can : ∀ q, wrs cin q → F.M q ∨ F.H q = none := fun q ⟨c, hc, e⟩ => s0.can c (List.mem_append_left _ hc) (hwt c hc) q e
  have kr : CellsOk Cr H1 S1 := ⟨fun c hc => by
    obtain ⟨h1, h2⟩ := s0.cl.at_ c (List.mem_append_right _ hc)
    have nin : ∀ q, c.dom q → ¬ wrs cin q := fun q hq ⟨c0, hc0, e⟩ => dis c0 hc0 c hc q e hq
    refine ⟨c.mono g.s (fun q o hq e => g.keep q o e (nin q hq)) h1, fun q hq => ?_⟩
    obtain ⟨e1, o, e2, nt⟩ := h2 q hq
    exact ⟨g.un e2 e1 nt (nin q hq), o, g.keep q o e2 (nin q hq), nt⟩, ndr⟩
  refine ⟨⟨fun q o h n => ?_, fun q h => s.g.there q (g.there q h), s.g.s.trans g.s, g.sub, fun q o h => ?_⟩, s.len, fun j U e => ?_, ⟨fun c hc => ?_, List.pairwise_append.mpr ⟨cl.nd, ndr, fun c hc c2 hc2 q hq hq2 => ?_⟩⟩, fun c hc hcw q hq => ?_⟩
  · refine g.keep q o (s.g.keep q o h n) fun w => ?_
    rcases cin_can q w with z | z
    · exact n z
    · rw [h] at z; cases z
  · rcases g.new q o h with z | z | z
    · exact s.g.new q o z
    · exact .inr (.inl (s.g.there q z))
    · exact .inr (.inr z)
  · obtain ⟨v, e1, e2⟩ := s.sl j U e
    exact ⟨v, e1, U.mono g.s e2⟩
  · rcases List.mem_append.mp hc with hc | hc
    · exact cl.at_ c hc
    · exact kr.at_ c hc
  · rcases fr c hc q hq with ⟨c0, hc0, e0⟩ | z
    · exact dis c0 hc0 c2 hc2 q e0 hq2
    · obtain ⟨_, o, e, _⟩ := (s0.cl.at_ c2 (List.mem_append_right _ hc2)).2 q hq2
      rw [hn q z] at e; cases e
  · rcases List.mem_append.mp hc with hc | hc
    · rcases fr c hc q hq with z | z
      · exact cin_can _ z
      · exact .inr (s.g.there _ (hn _ z))
    · exact s0.can c (List.mem_append_right _ hc) hcw q hq
/-! settling -/
open Classical in
noncomputable def setl (S H : Hp) (D : Addr → Prop) : Hp := fun q => if D q then H q else S q
theorem setl_in {D : Addr → Prop} {q : Addr} (h : D q) : setl S H D q = H q := by unfold setl; rw [if_pos h]
theorem setl_out {D : Addr → Prop} {q : Addr} (h : ¬ D q) : setl S H D q = S q := by unfold setl; rw [if_neg h]
theorem CellsOk.un (k : CellsOk cs H S) {q : Addr} (h : wrs cs q) : S q = none := by
  obtain ⟨c, hc, e⟩ := h
  exact ((k.at_ c hc).2 q e).1
theorem setl_same (k : CellsOk cs H S) : Same S (setl S H (wrs cs)) := fun q o h => by
  by_cases z : wrs cs q
  · rw [k.un z] at h; cases h
  · rw [setl_out z]; exact h
theorem setl_sub {D : Addr → Prop} (h : Same S H) : Same (setl S H D) H := fun q o e => by
  by_cases z : D q
  · rw [setl_in z] at e; exact e
  · rw [setl_out z] at e; exact h q o e
theorem setl_ok (k : CellsOk cs H S) {c : Cell} (hc : c ∈ cs) : c.ok (setl S H (wrs cs)) (setl S H (wrs cs)) :=
  c.mono (setl_same k) (fun q o hq e => by rw [setl_in ⟨c, hc, hq⟩]; exact e) (k.at_ c hc).1
/-- where all these cells are settled, a T is a T' -/
def Stl (cs : List Cell) (T T' : Ty) : Prop := ∀ (S : Hp) (v : V), (∀ c ∈ cs, c.ok S S) → T.ok S v → T'.ok S v
theorem Gr.setl {M : Addr → Prop} (g : Gr M H S H1 S1) (k : CellsOk cs H1 S1) (hn : ∀ q, wrs cs q → H q = none) : Gr M H S H1 (setl S1 H1 (wrs cs)) :=
  ⟨g.keep, g.there, g.s.trans (setl_same k), setl_sub g.sub, fun q o h => by
    by_cases z : wrs cs q
    · exact .inr (.inl (hn q z))
    · rw [setl_out z] at h; exact g.new q o h⟩
theorem Stt.setl (s : Stt F Γ C σ H S) (hp : Pks C cs Cr) (hn : ∀ c ∈ cs, ∀ q, c.dom q → F.H q = none) : Stt F Γ Cr σ H (setl S H (wrs cs)) := by
  have s0 := s.perm hp.perm
  have k := s0.cl.left
  obtain ⟨_, ndr, dis⟩ := List.pairwise_append.mp s0.cl.nd
  refine ⟨s.g.setl k fun q ⟨c, hc, e⟩ => hn c hc q e, s.len, fun j U e => ?_, ⟨fun c hc => ?_, ndr⟩, fun c hc => s0.can c (List.mem_append_right _ hc)⟩
  · obtain ⟨v, e1, e2⟩ := s.sl j U e
    exact ⟨v, e1, U.mono (setl_same k) e2⟩
  · obtain ⟨h1, h2⟩ := s0.cl.at_ c (List.mem_append_right _ hc)
    refine ⟨c.mono (setl_same k) (fun _ _ _ e => e) h1, fun q hq => ?_⟩
    rw [setl_out fun ⟨c0, hc0, e⟩ => dis c0 hc0 c hc q e hq]
    exact h2 q hq
/-- cells settle; slot i is told anew -/
theorem ss_setl (i : Nat) (hp : Pks C cs Cr) (hx : Γ[i]? = some (some T)) (hs : Stl cs T T') (hn : ∀ c ∈ cs, ∀ q, c.dom q → F.H q = none) (h : SS F u (Γ.set i (some T')) Cr O) : SS F u Γ C O := fun σ H S s D o => by
  have k := (s.perm hp.perm).cl.left
  have s1 := s.setl hp hn
  obtain ⟨v, ev, kv⟩ := s1.sl i _ hx
  have s2 : Stt F (Γ.set i (some T')) Cr (σ.set i (some v)) H (setl S H (wrs cs)) := s1.set (hs _ v (fun c hc => setl_ok k hc) kv)
  have e : σ.set i (some v) = σ := by
    obtain ⟨hl, e⟩ := List.getElem?_eq_some_iff.mp ev
    rw [← e, List.set_getElem_self]
  rw [e] at s2
  exact h σ H _ s2 D (o.grow (setl_same k))
/-! rules of SM -/
theorem m_e (h : SE true te Γ C T) : SM te Γ C (fun _ : Unit => True) (fun _ => T) (fun _ => C) (fun _ _ => False) := fun F σ H S s Q q => h F σ H S s Q fun v H1 S1 g k => q () v H1 S1 trivial g.s k (fun _ z => z.elim) (s.grow g)
theorem m_o {ds : List PyData} (h : SO te Γ C ds) : SM te Γ C (fun p : Addr => ∀ x ∈ C, ¬ x.dom p) (fun p => tV (.ref p)) (fun p => cL p ds :: C) (fun p q => q = p) := fun F σ H S s Q q => h F σ H S s Q fun p vs H1 S1 g hp h1 h2 k =>
  q p _ H1 S1 (fun x hx e => by
    obtain ⟨_, o, e2, _⟩ := (s.cl.at_ x hx).2 p e
    rw [hp] at e2; cases e2) g.s rfl (fun q hq => by rw [hq]; exact s.g.there _ hp) (s.new (X := pL ds) g hp h1 h2 ⟨vs, rfl, k⟩)
variable {α ρ : Type} {post : ρ → Prop} {Tm : ρ → Ty} {Cm : ρ → List Cell} {Nm : ρ → Addr → Prop}
theorem ss_setM (he : SM te Γ C post Tm Cm Nm) (h : ∀ y, post y → (∀ q, Nm y q → F.H q = none) → SS F u (Γ.set i (some (Tm y))) (Cm y) O) : SS F (tSeq (tAsg te (gName i)) u) Γ C O := fun σ H S s D o =>
  he F σ H S s _ fun y v H1 S1 hy g k hn s1 => h y hy hn _ H1 S1 (s1.set k) D (o.grow g)
theorem ss_dropM (he : SM te Γ C post Tm Cm Nm) (h : ∀ y, post y → (∀ q, Nm y q → F.H q = none) → SS F u Γ (Cm y) O) : SS F (tSeq (tDrop te) u) Γ C O := fun σ H S s D o =>
  he F σ H S s _ fun y v H1 S1 hy g k hn s1 => h y hy hn _ H1 S1 s1 D (o.grow g)
theorem ss_retM (he : SM te Γ C post Tm Cm Nm) (h : ∀ y v σ H S, post y → (∀ q, Nm y q → F.H q = none) → Stt F Γ (Cm y) σ H S → (Tm y).ok S v → O.rt v H S) : SS F (tSeq (tRet te) u) Γ C O := fun σ H S s D o =>
  he F σ H S s _ fun y v H1 S1 hy g k hn s1 => o.rt v H1 S1 g (h y v σ H1 S1 hy hn s1 k)
/-! calls -/
variable {p : Pr α ρ} {E : XK} {ta : TA} {Ts : List Ty}
theorem m_call (a : α) (h : SA true ta Γ C Ts) (hT : Ts = p.args a) (hc : p.cond a) (hw : Pks C (p.cin a) Cr) (hr : Pks (Cr.map Cell.ro) ((p.rd a).map Cell.ro) Cq) (hwt : ∀ c ∈ p.cin a, c.w = true) (hx : p.exc a = none) :
    SM (tCall (spG p) [] E ta) Γ C (p.post a) (p.res a) (fun y => p.cout a y ++ Cr) (p.nw a) := fun F σ H S s Q q => h F σ H S s _ fun vs H1 S1 g k => by
  subst hT
  rw [List.append_nil]
  have s1 := s.grow g
  refine ⟨a, S1, g.sub, k, hc, s1.cl.pick hw hr, fun _ y v H2 S2 r => ?_, fun c e => by rw [hx] at e; cases e⟩
  exact q y v H2 S2 r.post (g.s.trans r.g.s) r.res (fun z hz => s1.g.there _ (r.nw z hz)) (s1.call hw hwt r.g r.cl r.nw r.fr)
/-- nothing written, what is handed back settles -/
theorem e_callS (a : α) (h : SA true ta Γ C Ts) (hT : Ts = p.args a) (hc : p.cond a) (hci : p.cin a = []) (hr : Pks (C.map Cell.ro) ((p.rd a).map Cell.ro) Cq) (hx : p.exc a = none) (hs : ∀ y, p.post a y → Stl (p.cout a y) (p.res a y) T) :
    SE true (tCall (spG p) [] E ta) Γ C T := fun F σ H S s Q q => h F σ H S s _ fun vs H1 S1 g k => by
  subst hT
  rw [List.append_nil]
  have s1 := s.grow g
  refine ⟨a, S1, g.sub, k, hc, hci ▸ s1.cl.pick .nil hr, fun _ y v H2 S2 r => ?_, fun c e => by rw [hx] at e; cases e⟩
  have g2 : Gr0 H1 S1 H2 S2 := r.g.weak fun q hq => by rw [hci] at hq; exact wrs_nil hq
  have g3 : Gr0 H1 S1 H2 (Sw.setl S2 H2 (wrs (p.cout a y))) := g2.setl r.cl fun q ⟨c, hc, e⟩ => by
    rcases r.fr c hc q e with z | z
    · rw [hci] at z; exact (wrs_nil z).elim
    · exact r.nw _ z
  exact q v H2 _ (g.trans g3) (hs y r.post _ v (fun c hc => setl_ok r.cl hc) ((p.res a y).mono (setl_same r.cl) r.res))
/-- nothing written, nothing new, all data -/
theorem stl_nil : Stl [] T T := fun _ _ _ h => h
/-! bodies -/
/-- what is wanted of a def -/
def retG (F : Fr0) (p : Pr α ρ) (a : α) (E : XK) : Out :=
  { nx := fun _ H S => p.exc a = none ∧ ∃ y, p.post a y ∧ Gr F.M F.H F.S H S ∧ (p.res a y).ok S .non ∧ CellsOk (p.cout a y) H S ∧ (∀ q, p.nw a y q → F.H q = none) ∧ (∀ c ∈ p.cout a y, ∀ q, c.dom q → F.M q ∨ p.nw a y q)
    rt := fun v H S => p.exc a = none ∧ ∃ y, p.post a y ∧ Gr F.M F.H F.S H S ∧ (p.res a y).ok S v ∧ CellsOk (p.cout a y) H S ∧ (∀ q, p.nw a y q → F.H q = none) ∧ (∀ c ∈ p.cout a y, ∀ q, c.dom q → F.M q ∨ p.nw a y q)
    W := fun cls d _ H => E cls d H
    xc := fun cls _ _ H S => p.exc a = some cls ∧ Gr F.M F.H F.S H S }
theorem ss_retG {a : α} (y : ρ) (he : SE true te Γ C (p.res a y)) (hy : p.post a y) (hp : Pks C (p.cout a y) Cr) (hn : ∀ q, p.nw a y q → F.H q = none) (hf : ∀ c ∈ p.cout a y, ∀ q, c.dom q → F.M q ∨ p.nw a y q) (hx : p.exc a = none := by rfl) (hO : O.rt = (retG F p a E).rt := by rfl) : SS F (tSeq (tRet te) u) Γ C O :=
  ss_ret he fun v σ H S s k => hO ▸ ⟨hx, y, hy, s.g, k, (s.cl.perm hp.perm).left, hn, hf⟩
theorem ss_endG {a : α} (y : ρ) (he : ∀ S, (p.res a y).ok S .non) (hy : p.post a y) (hp : Pks C (p.cout a y) Cr) (hn : ∀ q, p.nw a y q → F.H q = none) (hf : ∀ c ∈ p.cout a y, ∀ q, c.dom q → F.M q ∨ p.nw a y q) (hx : p.exc a = none := by rfl) : SS F tNext Γ C (retG F p a E) :=
  ss_nil fun σ H S s => ⟨hx, y, hy, s.g, he S, (s.cl.perm hp.perm).left, hn, hf⟩
theorem ss_retGM {a : α} (he : SM te Γ C post Tm Cm Nm) (f : ρ → ρ) (h : ∀ y, post y → (∀ q, Nm y q → F.H q = none) → ∃ Cr, Tm y = p.res a (f y) ∧ p.post a (f y) ∧ Pks (Cm y) (p.cout a (f y)) Cr ∧ (∀ q, p.nw a (f y) q → F.H q = none) ∧ (∀ c ∈ p.cout a (f y), ∀ q, c.dom q → F.M q ∨ p.nw a (f y) q)) (hx : p.exc a = none := by rfl) (hO : O.rt = (retG F p a E).rt := by rfl) :
    SS F (tSeq (tRet te) u) Γ C O := ss_retM he fun y v σ H S hy hn s k => by
  obtain ⟨Cr, e, h1, h2, h3, h4⟩ := h y hy hn
  exact hO ▸ ⟨hx, f y, h1, s.g, e ▸ k, (s.cl.perm h2.perm).left, h3, h4⟩
end
section
variable {P : Program} {w : World} {K : PySem.W.Frag} {mg : Str → Option Value} {base : Heap} {x : Str} {st : Stmt} {N ps : List Str} {k : Nat} {α ρ : Type} {p : Pr α ρ}
theorem gam_okG {F : Fr0} {vs : List V} {H S : Hp} {a : α} (h : Tys S (p.args a) vs) (g : Gr F.M F.H F.S H S) (hn : (p.args a).length ≤ N.length) (cl : CellsOk (p.rd a ++ p.cin a) H S) (hM : F.M = wrs (p.cin a)) : Stt F (gam (p.args a) N.length) ((p.rd a).map Cell.ro ++ p.cin a) (L2.start N vs) H S :=
  gam_ok h g hn ⟨fun c hc => by
    rcases List.mem_append.mp hc with hc | hc
    · obtain ⟨c0, h0, rfl⟩ := List.mem_map.mp hc
      exact cl.at_ c0 (List.mem_append_left _ h0)
    · exact cl.at_ c (List.mem_append_right _ hc), by
    obtain ⟨h1, h2, h3⟩ := List.pairwise_append.mp cl.nd
    refine List.pairwise_append.mpr ⟨List.pairwise_map.mpr h1, h2, fun c hc c2 hc2 => ?_⟩
    obtain ⟨c0, h0, rfl⟩ := List.mem_map.mp hc
    exact h3 c0 h0 c2 hc2⟩ fun c hc hw q hq => by
    rcases List.mem_append.mp hc with hc | hc
    · obtain ⟨c0, h0, rfl⟩ := List.mem_map.mp hc
      cases hw
    · exact .inl (hM ▸ ⟨c, hc, hq⟩)
/-- a def that raises nothing -/
theorem fnk_G {f : Addr} {fd : FuncData} (Fn : Fun K x x st f fd) (sc : FnScope N ps (defScope st)) (hlen : ∀ a, (p.args a).length = ps.length)
    (body : ∀ (cdv : Value) (A : Around) (outer : List Env) (s : Shared) (H : Hp) (E : XK), Room k (A.deeper (PyProof.Rows.envOfC x (defScope st) s.heap.objs.size f cdv)) →
      ∃ t, PSs (cxOf CX0 P w K mg base N x (defScope st) f cdv A outer s H E).nox (defBody st) t ∧ ∀ (a : α) (F : Fr0), F.M = wrs (p.cin a) → p.cond a → p.exc a = none → SS F t (gam (p.args a) N.length) ((p.rd a).map Cell.ro ++ p.cin a) (retG F p a E)) (hx : ∀ a, p.exc a = none := by exact fun _ => rfl) : FnOk P w K mg base CX0 (k + 1) f fd ps (spG p) := by
  have hpl : ps.length ≤ N.length := by have := congrArg List.length sc.pre; rw [List.length_take] at this; omega
  refine Fn.ok sc (fun vs H Q E h => ?_) (fun cdv A outer s H vs Q E hr h => ?_)
  · obtain ⟨a, S, _, h, _⟩ := h
    rw [Tys.len h, hlen]
  · obtain ⟨a, S, hS, ht, hc, hcl, q, qx⟩ := h
    obtain ⟨t, h1, h2⟩ := body cdv A outer s H E hr
    refine ⟨t, h1, h2 a ⟨wrs (p.cin a), H, S⟩ rfl hc (hx a) _ H S (gam_okG ht (Gr.refl hS) (by rw [hlen]; exact hpl) hcl rfl) _ ⟨fun σ H' S' _ h => ?_, fun v H' S' _ h => ?_, fun _ _ _ _ z => z.elim, fun _ _ _ _ z => z.elim, fun cls d _ H' S' _ h => qx cls h.1 d H' S' h.2⟩⟩
    · obtain ⟨hx, y, y1, y2, y3, y4, y5, y6⟩ := h
      exact q hx y _ H' S' ⟨y1, y2, y3, y4, y5, y6⟩
    · obtain ⟨hx, y, y1, y2, y3, y4, y5, y6⟩ := h
      exact q hx y _ H' S' ⟨y1, y2, y3, y4, y5, y6⟩
theorem fn_G (D : Def K mg x st ps) (sc : FnScope N ps (defScope st)) (hlen : ∀ a, (p.args a).length = ps.length)
    (body : ∀ (f : Addr) (cdv : Value) (A : Around) (outer : List Env) (s : Shared) (H : Hp) (E : XK), Room k (A.deeper (PyProof.Rows.envOfC x (defScope st) s.heap.objs.size f cdv)) →
      ∃ t, PSs (cxOf CX0 P w K mg base N x (defScope st) f cdv A outer s H E).nox (defBody st) t ∧ ∀ (a : α) (F : Fr0), F.M = wrs (p.cin a) → p.cond a → p.exc a = none → SS F t (gam (p.args a) N.length) ((p.rd a).map Cell.ro ++ p.cin a) (retG F p a E)) (hx : ∀ a, p.exc a = none := by exact fun _ => rfl) : Cal P w K mg base (k + 1) x ps (spG p) := by
  obtain ⟨f, fd, Fn, hm, hb⟩ := D.ex
  exact ⟨f, fd, fnk_G Fn sc hlen (body f) hx, hm, Fn.kp, hb⟩
end
/-! further -/
section
variable {F : Fr0} {Γ Γ' : List Sl} {C C' Cr Cq cs : List Cell} {te tb to : TE} {T T' : Ty} {O : Out} {u : TS} {i : Nat} {K : PySem.W.Frag} {m : Bool}
theorem e_tupV {ta : TA} {Ts : List Ty} (h : SA true ta Γ C Ts) (hl : Ts.length ≤ 100000) : SE true (tTup ta) Γ C (tTV Ts) := fun F σ H S s Q q => h F σ H S s _ fun vs H1 S1 g k => by
  refine ⟨by rw [Tys.len k]; exact Nat.le_trans hl (by decide), fun p hp => ?_⟩
  have g2 := Gr.allocS (M := M0) g.sub (o := .tup vs) hp
  exact q _ _ _ (g.trans g2) ⟨p, vs, rfl, upd_same, Tys.mono g2.s k⟩
theorem r_ixTV {Ts : List Ty} {n : Nat} (e : Ts[n]? = some T) : R2k true (rIxT K) (tTV Ts) (tI (n : Int)) T := fun x y H S s hx hy Q q => by
  obtain ⟨a, xs, rfl, h1, h2⟩ := hx
  obtain ⟨v, e1, e2⟩ := Tys.get h2 e
  rw [dp_int hy]
  exact ⟨a, xs, n, v, rfl, rfl, SqT.of (s _ _ h1), atI_nat e1, q v H S (Gr.refl s) e2⟩
theorem r_ixLV {Ts : List Ty} {n : Nat} (e : Ts[n]? = some T) : R2k true (rIxL K) (tLV Ts) (tI (n : Int)) T := fun x y H S s hx hy Q q => by
  obtain ⟨a, xs, rfl, h1, h2⟩ := hx
  obtain ⟨v, e1, e2⟩ := Tys.get h2 e
  rw [dp_int hy]
  exact ⟨a, xs, n, v, rfl, rfl, SqL.of (s _ _ h1), atI_nat e1, q v H S (Gr.refl s) e2⟩
/-- seen with the cells in their place -/
theorem e_seen {d : PyData} (h : SE true te Γ C T) (hp : Pks (C.map Cell.ro) (cs.map Cell.ro) Cr) (hs : Stl cs T (tD d)) : SE false te Γ C (tD d) := fun F σ H S s Q q => h F σ H S s Q fun v H1 S1 g k => by
  have s1 := s.grow g
  have k1 : CellsOk cs H1 S1 := CellsOk.ro.mp ((CellsOk.ro.mpr s1.cl).perm hp.perm).left
  exact q v H1 S1 g (dp_mono (setl_sub g.sub) _ _ (hs _ v (fun c hc => setl_ok k1 hc) (T.mono (setl_same k1) k)))
/-- e.append(x), e an own list at the cells' head -/
theorem ss_appE {p : Addr} {ds : List PyData} {d : PyData} {T' : String} (ho : SE true to Γ (cL p ds :: C) (tV (.ref p))) (he : SE true te Γ (cL p ds :: C) (tD d)) (hl : ds.length < 100000) (h : SS F u Γ (cL p (ds ++ [d]) :: C) O) (hT : T' = "list") :
    SS F (tSeq (tDrop (tBM K T' rAppend to (tCons te tNil))) u) Γ (cL p ds :: C) O := fun σ H S s D o => by
  subst hT
  refine ho F σ H S s _ fun v H0 S0 g0 kv => ?_
  have kv : v = .ref p := kv
  subst kv
  obtain ⟨o1, q1, q2, vs1, rfl, q3⟩ := (s.grow g0).cl.one List.mem_cons_self
  refine ⟨.inl ⟨rfl, _, SqL.of q1⟩, he F σ H0 S0 (s.grow g0) _ fun w H1 S1 g k => ?_⟩
  have s1 := s.grow (g0.trans g)
  obtain ⟨o2, e1, e2, vs, rfl, e3⟩ := s1.cl.one List.mem_cons_self
  refine ⟨p, vs, w, rfl, rfl, e1, by rw [dps_len e3]; exact Nat.lt_of_lt_of_le hl (by decide), ?_⟩
  exact h σ _ S1 (s1.write (X' := pL (ds ++ [d])) ⟨_, rfl, dps_app e3 (.cons k .nil)⟩) D (o.grow (g0.trans g).s)
end
/-! argument lists with a call that changes cells -/
def SAM {ρ : Type} (ta : TA) (Γ : List Sl) (C : List Cell) (post : ρ → Prop) (Ts : ρ → List Ty) (C' : ρ → List Cell) (N : ρ → Addr → Prop) : Prop := ∀ (F : Fr0) (σ : L2.St) (H S : Hp), Stt F Γ C σ H S → ∀ Q : List V → Hp → Prop,
  (∀ y vs H' S', post y → Same S S' → Tys S' (Ts y) vs → (∀ q, N y q → F.H q = none) → Stt F Γ (C' y) σ H' S' → Q vs H') → ta σ H Q
section
variable {F : Fr0} {Γ Γ' : List Sl} {C Cr Cq cs : List Cell} {te tb ti to : TE} {tr ta : TA} {T T' : Ty} {O : Out} {u : TS} {i : Nat} {K : PySem.W.Frag} {m : Bool} {ρ : Type} {post : ρ → Prop} {Tm : ρ → Ty} {Tsm : ρ → List Ty} {Cm : ρ → List Cell} {Nm : ρ → Addr → Prop}
theorem am_m (h : SM te Γ C post Tm Cm Nm) (hr : ∀ y, post y → SA true tr Γ (Cm y) (Tsm y)) : SAM (tCons te tr) Γ C post (fun y => Tm y :: Tsm y) Cm Nm := fun F σ H S s Q q =>
  h F σ H S s _ fun y v H1 S1 hy g k hn s1 => hr y hy F σ H1 S1 s1 _ fun vs H2 S2 g2 k2 => q y _ H2 S2 hy (g.trans g2.s) ⟨(Tm y).mono g2.s k, k2⟩ hn (s1.grow g2)
theorem am_e (h : SE true te Γ C T) (hr : SAM tr Γ C post Tsm Cm Nm) : SAM (tCons te tr) Γ C post (fun y => T :: Tsm y) Cm Nm := fun F σ H S s Q q =>
  h F σ H S s _ fun v H1 S1 g1 k1 => hr F σ H1 S1 (s.grow g1) _ fun y vs H2 S2 hy g2 k2 hn s2 => q y _ H2 S2 hy (g1.s.trans g2) ⟨T.mono g2 k1, k2⟩ hn s2
theorem m_tup (h : SAM ta Γ C post Tsm Cm Nm) (hl : ∀ y, (Tsm y).length ≤ 100000) : SM (tTup ta) Γ C post (fun y => tTV (Tsm y)) Cm Nm := fun F σ H S s Q q => h F σ H S s _ fun y vs H1 S1 hy g k hn s1 => by
  refine ⟨by rw [Tys.len k]; exact Nat.le_trans (hl y) (by decide), fun p hp => ?_⟩
  have g2 := Gr.allocS (M := M0) s1.sub (o := .tup vs) hp
  exact q y _ _ _ hy (g.trans g2.s) ⟨p, vs, rfl, upd_same, Tys.mono g2.s k⟩ hn (s1.grow g2)
/-! lists of any values -/
def pLV (Ts : List Ty) : P1 := ⟨fun S o => ∃ vs, o = .lst vs ∧ Tys S Ts vs, fun ⟨vs, h, _⟩ => h ▸ id, fun e ⟨vs, h1, h2⟩ => ⟨vs, h1, Tys.mono e h2⟩⟩
abbrev cLV (p : Addr) (Ts : List Ty) : Cell := c1 p (pLV Ts)
theorem tys_set {S : Hp} {v : V} (h : T.ok S v) : ∀ {Ts : List Ty} {vs : List V} (n : Nat), Tys S Ts vs → Tys S (Ts.set n T) (vs.set n v)
  | [], [], _, _ => trivial
  | _ :: _, _ :: _, 0, k => ⟨h, k.2⟩
  | _ :: _, _ :: _, n + 1, k => ⟨k.1, tys_set h n k.2⟩
  | [], _ :: _, _, k => k.elim
  | _ :: _, [], _, k => k.elim
theorem tys_app {S : Hp} : ∀ {Ts Us : List Ty} {vs us : List V}, Tys S Ts vs → Tys S Us us → Tys S (Ts ++ Us) (vs ++ us)
  | [], _, [], _, _, h => h
  | _ :: _, _, _ :: _, _, k, h => ⟨k.1, tys_app k.2 h⟩
  | [], _, _ :: _, _, k, _ => k.elim
  | _ :: _, _, [], _, k, _ => k.elim
/-- a cell told more weakly -/
theorem ss_cell {c c' : Cell} (hp : c'.dom = c.dom) (hw : c'.w = c.w) (h : ∀ S H, c.ok S H → c'.ok S H) (hs : SS F u Γ (c' :: C) O) : SS F u Γ (c :: C) O := fun σ H S s D o => by
  refine hs σ H S ⟨s.g, s.len, s.sl, ?_, fun x hx hxw => ?_⟩ D o
  · obtain ⟨h1, h2⟩ := s.cl.head
    exact s.cl.tail.cons (h S H h1) (by rw [hp]; exact h2) (by unfold Apart; rw [hp]; exact s.cl.ne)
  · rcases List.mem_cons.mp hx with e | hx
    · subst e; rw [hp]; exact s.can c List.mem_cons_self (hw ▸ hxw)
    · exact s.can x (List.mem_cons_of_mem _ hx) hxw
theorem ss_cellV {p : Addr} {ds : List PyData} (hs : SS F u Γ (cLV p (ds.map tD) :: C) O) : SS F u Γ (cL p ds :: C) O :=
  ss_cell (c := cL p ds) (c' := cLV p (ds.map tD)) rfl rfl (fun S H ⟨o, h0, vs, h1, h2⟩ => ⟨o, h0, vs, h1, tys_of h2⟩) hs
theorem Pk.mem {c : Cell} {C C' : List Cell} (h : Pk C c C') : c ∈ C := h.perm.mem_iff.mpr List.mem_cons_self
/-- an item of an own list, read -/
theorem e_ixE {p : Addr} {ds : List PyData} {k : Int} {d : PyData} (ho : SE true to Γ C (tV (.ref p))) (hc : cL p ds ∈ C) (hb : SE true tb Γ C (tI k)) (e : atI ds k = some d) : SE m (tOp (rIxL K) to tb) Γ C (tD d) := fun F σ H S s Q q => by
  refine ho F σ H S s _ fun v H0 S0 g0 kv => ?_
  have kv : v = .ref p := kv
  subst kv
  refine hb F σ H0 S0 (s.grow g0) _ fun y H1 S1 g1 ky => ?_
  have g := g0.trans g1
  obtain ⟨o, h1, h2, vs, rfl, h3⟩ := (s.grow g).cl.one hc
  obtain ⟨v, e1, e2⟩ := dps_atI h3 e
  rw [dp_int ky]
  refine ⟨p, vs, k, v, rfl, rfl, SqL.of h1, e1, q v H1 S1 g ?_⟩
  cases m with
  | true => exact e2
  | false => exact dp_mono g.sub _ _ e2
theorem e_ixV {p : Addr} {Ts : List Ty} {n : Nat} (ho : SE true to Γ C (tV (.ref p))) (hc : cLV p Ts ∈ C) (hb : SE true tb Γ C (tI (n : Int))) (e : Ts[n]? = some T) : SE true (tOp (rIxL K) to tb) Γ C T := fun F σ H S s Q q => by
  refine ho F σ H S s _ fun v H0 S0 g0 kv => ?_
  have kv : v = .ref p := kv
  subst kv
  refine hb F σ H0 S0 (s.grow g0) _ fun y H1 S1 g1 ky => ?_
  have g := g0.trans g1
  obtain ⟨o, h1, h2, vs, rfl, h3⟩ := (s.grow g).cl.one hc
  obtain ⟨v, e1, e2⟩ := Tys.get h3 e
  rw [dp_int ky]
  exact ⟨p, vs, n, v, rfl, rfl, SqL.of h1, atI_nat e1, q v H1 S1 g e2⟩
/-- e[k] = x, e an own list -/
theorem ss_setItemE {p : Addr} {ds : List PyData} {d : PyData} {k : Int} {n : Nat} (he : SE true te Γ C (tD d)) (ho : SE true to Γ C (tV (.ref p))) (hi : SE true ti Γ C (tI k)) (hc : Pk C (cL p ds) Cr) (hk : ixN ds.length k = some n) (h : SS F u Γ (cL p (ds.set n d) :: Cr) O) :
    SS F (tSeq (tAsg te (gSub to ti rSetL)) u) Γ C O := fun σ H S s D o => he F σ H S s _ fun w H1 S1 g1 k1 => by
  refine ho F σ H1 S1 (s.grow g1) _ fun v H2 S2 g2 kv => ?_
  have kv : v = .ref p := kv
  subst kv
  refine hi F σ H2 S2 (s.grow (g1.trans g2)) _ fun z H3 S3 g3 k3 => ?_
  have s3 := (s.grow ((g1.trans g2).trans g3)).perm hc.perm
  obtain ⟨o2, e1, e2, vs, rfl, e3⟩ := s3.cl.one List.mem_cons_self
  refine ⟨p, vs, k, n, rfl, dp_int k3, e1, by rw [dps_len e3]; exact hk, ?_⟩
  exact h σ _ S3 (s3.write (X' := pL (ds.set n d)) ⟨_, rfl, dps_set (dp_mono (g2.trans g3).s _ _ k1) n e3⟩) D (o.grow ((g1.trans g2).trans g3).s)
/-- xs[k] = x, xs an own list of any values, x made by what changes cells -/
theorem ss_setItemM {p : Addr} {Ts : List Ty} {n : Nat} (he : SM te Γ C post Tm Cm Nm) (hx : Γ[i]? = some (some (tV (.ref p)))) (hi : ∀ y, post y → SE true ti Γ (Cm y) (tI (n : Int))) (Cr : ρ → List Cell) (hc : ∀ y, Pk (Cm y) (cLV p Ts) (Cr y)) (hn : n < Ts.length)
    (h : ∀ y, post y → (∀ q, Nm y q → F.H q = none) → SS F u Γ (cLV p (Ts.set n (Tm y)) :: Cr y) O) :
    SS F (tSeq (tAsg te (gSub (tVar i) ti rSetL)) u) Γ C O := fun σ H S s D o => he F σ H S s _ fun y w H1 S1 hy g1 k1 hnw s1 => by
  obtain ⟨v, ev, kv⟩ := s1.sl i _ hx
  have kv : v = .ref p := kv
  subst kv
  refine ⟨_, ev, hi y hy F σ H1 S1 s1 _ fun z H3 S3 g3 k3 => ?_⟩
  have s3 := (s1.grow g3).perm (hc y).perm
  obtain ⟨o2, e1, e2, vs, rfl, e3⟩ := s3.cl.one List.mem_cons_self
  refine ⟨p, vs, (n : Int), n, rfl, dp_int k3, e1, ?_, ?_⟩
  · rw [Tys.len e3]
    unfold ixN
    rw [if_pos (by omega), if_pos (by omega)]
    rfl
  · exact h y hy hnw σ _ S3 (s3.write (X' := pLV (Ts.set n (Tm y))) ⟨_, rfl, tys_set ((Tm y).mono g3.s k1) n e3⟩) D (o.grow (g1.trans g3.s))
theorem e_notTV {Ts : List Ty} (h : SE true te Γ C (tTV Ts)) : SE true (tNotN te) Γ C (tBo true) := fun F σ H S s Q q => h F σ H S s _ fun v H1 S1 g k => by
  obtain ⟨a, vs, rfl, _⟩ := k
  exact q _ H1 S1 g (.bl _)
theorem stl_list {p : Addr} {ds : List PyData} : Stl [cL p ds] (tV (.ref p)) (tLs ds) := fun S v hc h => by
  obtain ⟨o, q1, vs, rfl, q2⟩ := hc _ List.mem_cons_self
  have h : v = .ref p := h
  subst h
  exact .lst q1 q2
end
end Sw
/-! views of a heap that is not settled; defs that hand back new things alone; objects -/
namespace Sw
open PySem L2
/-- the classes of the program -/
structure CA where
  Craft : Addr
  Hall : Addr
  Frame : Addr
  Run : Addr
  HallError : Addr
  BadSheet : Addr
  NoCraft : Addr
  Unmet : Addr
  NotShown : Addr
  Unfit : Addr
def over (L S : Hp) : Hp := fun q => match L q with
  | some o => some o
  | none => S q
theorem over_in {L S : Hp} {q : Addr} {o : HO} (h : L q = some o) : over L S q = some o := by unfold over; rw [h]
theorem over_out {L S : Hp} {q : Addr} (h : L q = none) : over L S q = S q := by unfold over; rw [h]
theorem over_mono {L S S' : Hp} (e : Same S S') : Same (over L S) (over L S') := fun q o h => by
  cases z : L q with
  | some u => rw [over_in z] at h ⊢; exact h
  | none => rw [over_out z] at h ⊢; exact e q o h
theorem over_sub {L S H : Hp} (h1 : Same L H) (h2 : Same S H) : Same (over L S) H := fun q o h => by
  cases z : L q with
  | some u => rw [over_in z] at h; exact h ▸ h1 q u z
  | none => rw [over_out z] at h; exact h2 q o h
theorem over_l {L S : Hp} : Same L (over L S) := fun q o h => over_in h
def tOv (L : Hp) (T : Ty) : Ty := ⟨fun S v => T.ok (over L S) v, fun e h => T.mono (over_mono e) h⟩
def tupOf (L : Hp) : Hp := fun q => match L q with
  | some (.tup xs) => some (.tup xs)
  | _ => none
def ntOf (L : Hp) : Hp := fun q => match L q with
  | some (.tup _) => none
  | o => o
theorem over_nt (L : Hp) : over (ntOf L) (tupOf L) = L := by
  funext q
  unfold over ntOf tupOf
  cases h : L q with
  | none => rfl
  | some o => cases o <;> rfl
theorem tup_sub {L : Hp} : Same (tupOf L) L := fun q o h => by
  unfold tupOf at h
  split at h
  · rename_i e; rw [e]; exact h
  · cases h
theorem tup_isT {L : Hp} {q : Addr} {o : HO} (h : tupOf L q = some o) : isT o := by
  unfold tupOf at h
  split at h
  · cases h; trivial
  · cases h
theorem nt_sub {L : Hp} : Same (ntOf L) L := fun q o h => by
  unfold ntOf at h
  split at h
  · cases h
  · exact h
theorem nt_not {L : Hp} {q : Addr} {o : HO} (h : ntOf L q = some o) : ¬ isT o := fun z => by
  unfold ntOf at h
  split at h
  · cases h
  · rename_i hn
    cases o with
    | tup xs => exact hn xs h
    | _ => exact z
theorem nt_tup {L : Hp} {q : Addr} {o : HO} (h : ntOf L q = some o) : tupOf L q = none := by
  cases e : tupOf L q with
  | none => rfl
  | some u =>
    have h1 := tup_sub q u e
    rw [nt_sub q o h] at h1
    cases h1
    exact (nt_not h (tup_isT e)).elim
/-- a part of the heap that is seen and not settled -/
def cReg (L : Hp) : Cell := ⟨fun q => ∃ o, L q = some o, fun _ H => Same L H, fun _ h s q o e => h q o ⟨o, e⟩ (s q o e), true⟩
def HasR (C : List Cell) (L : Hp) : Prop := ∀ H S, CellsOk C H S → Same L H
theorem hasR {L : Hp} {C : List Cell} : HasR (cReg L :: C) L := fun _ _ k => k.head.1
theorem hasRo {L : Hp} {C : List Cell} : HasR ((cReg L).ro :: C) L := fun _ _ k => k.head.1
theorem HasR.tail {L : Hp} {C : List Cell} {c : Cell} (h : HasR C L) : HasR (c :: C) L := fun H S k => h H S k.tail
/-- no tuples -/
def NoT (L : Hp) : Prop := ∀ q o, L q = some o → ¬ isT o
section
variable {F : Fr0} {m : Bool} {Γ Γ' : List Sl} {C Cr Cq cs : List Cell} {te tb ti to : TE} {tr ta : TA} {T T' : Ty} {Ts : List Ty} {O : Out} {u : TS} {i : Nat} {K : PySem.W.Frag} {L : Hp} {ds : List PyData} {d : PyData} {Cl : Addr} {ns : List Str} {f : Str}
theorem e_ov (h : SE true te Γ C (tOv L T)) (hr : HasR C L) : SE false te Γ C T := fun F σ H S s Q q => h F σ H S s Q fun v H1 S1 g k => q v H1 S1 g (T.mono (over_sub (hr H1 S1 (s.grow g).cl) g.sub) k)
/-- a variable that is seen -/
theorem e_vv (h : Γ[i]? = some (some (tOv L T))) (hr : HasR C L) : SE false (tVar i) Γ C T := e_ov (e_var h) hr
mutual
/-- without lists -/
def noL : PyData → Bool
  | .list _ => false
  | .tuple ds => noLs ds
  | .dict _ => false
  | _ => true
def noLs : List PyData → Bool
  | [] => true
  | d :: ds => noL d && noLs ds
end
mutual
theorem dq_noL {S : Hp} (hL : NoT L) : ∀ (d : PyData) (v : V), noL d = true → Dq (over L S) v d → Dq S v d
  | .none, _, _, h => by cases h; exact .non
  | .bool _, _, _, h => by cases h; exact .bl _
  | .int _, _, _, h => by cases h; exact .int _
  | .str _, _, _, h => by cases h; exact .str _
  | .list ds, _, e, _ => by unfold noL at e; cases e
  | .tuple ds, _, e, h => by
    unfold noL at e
    cases h with
    | @tup a xs _ hs ha =>
      refine .tup ?_ (dqs_noL hL ds _ e ha)
      cases z : L a with
      | none => rw [over_out z] at hs; exact hs
      | some o => rw [over_in z] at hs; cases hs; exact (hL a _ z trivial).elim
  | .dict _, _, _, h => by cases h
theorem dqs_noL {S : Hp} (hL : NoT L) : ∀ (ds : List PyData) (vs : List V), noLs ds = true → DqAll (over L S) vs ds → DqAll S vs ds
  | [], _, _, h => by cases h; exact .nil
  | d :: ds, _, e, h => by
    unfold noLs at e
    rw [Bool.and_eq_true] at e
    cases h with
    | cons h1 h2 => exact .cons (dq_noL hL d _ e.1 h1) (dqs_noL hL ds _ e.2 h2)
end
theorem e_noL (h : SE true te Γ C (tOv L (tD d))) (hL : NoT L) (hd : noL d = true) : SE true te Γ C (tD d) := fun F σ H S s Q q => h F σ H S s Q fun v H1 S1 g k => q v H1 S1 g (dq_noL hL d v hd k)
/-- a walk over a list that is seen -/
theorem w_ov (h : SE true te Γ C (tOv L (tLs ds))) (hr : HasR C L) : SWz (iList K te) Γ C ds (fun d => tOv L (tD d)) (Same L) := fun F σ H S s R q => h F σ H S s _ fun v H1 S1 g k => by
  obtain ⟨a, xs, rfl, h1, h2⟩ := dp_lst k
  have sL := hr H1 S1 (s.grow g).cl
  refine ⟨a, rfl, ⟨xs, SqL.of (over_sub sL g.sub _ _ h1)⟩, q _ H1 S1 g ⟨_, _, dps_len h2 ▸ walk_list (a := a) (xs := xs), fun H2 S2 e1 e2 z => SqL.of (over_sub z (e1.trans e2) _ _ h1), fun i b x H2 S2 H3 hb e1 e2 z y => ?_⟩⟩
  obtain ⟨rfl, hx⟩ := y
  exact ⟨S2, Gr.refl e2, dp_mono (over_mono e1) _ _ (dps_at h2 hb hx)⟩
/-! views in, new things out -/
def spV {α : Type} (args : α → List Ty) (cond : α → Prop) (res : α → Ty) : Sp := fun vs H Q _ => ∃ (a : α) (L : Hp), Same L H ∧ Tys L (args a) vs ∧ cond a ∧ ∀ v H' N, Gr0 H (tupOf L) H' N → (res a).ok N v → Q v H'
theorem Gr.join {M : Addr → Prop} {H S L H1 N : Hp} (g : Gr M H (tupOf L) H1 N) (hS : Same S H) (hM : ∀ q, M q → S q = none) : Gr M H S H1 (over N S) := by
  have hS1 : Same S H1 := fun q o h => g.keep q o (hS q o h) fun z => by rw [hM q z] at h; cases h
  refine ⟨g.keep, g.there, fun q o h => ?_, over_sub g.sub hS1, fun q o h => ?_⟩
  · cases z : N q with
    | none => rw [over_out z]; exact h
    | some u =>
      rw [over_in z]
      have := g.sub q u z
      rw [hS1 q o h] at this
      exact this.symm
  · cases z : N q with
    | none => rw [over_out z] at h; exact .inl h
    | some u =>
      rw [over_in z] at h
      cases h
      rcases g.new q _ z with e | e
      · exact .inr (.inr (tup_isT e))
      · exact .inr e
variable {α : Type} {args : α → List Ty} {cond : α → Prop} {res : α → Ty} {E : XK}
theorem e_callV (a : α) (h : SA false ta Γ C Ts) (hT : Ts = args a) (hc : cond a) : SE true (tCall (spV args cond res) [] E ta) Γ C (res a) := fun F σ H S s Q q => h F σ H S s _ fun vs H1 S1 g k => by
  subst hT
  rw [List.append_nil]
  exact ⟨a, H1, Same.refl _, k, hc, fun v H2 N g2 k2 => q v H2 _ (g.trans (g2.join g.sub fun _ z => z.elim)) ((res a).mono over_l k2)⟩
/-- a def that takes settled things, called with what is seen: a list of atoms back -/
theorem o_callV {resO : α → List PyData} {ws : List V} (a : α) (h : SA false ta Γ C Ts) (hT : Ts = args a) (hc : cond a) (hA : atvs (resO a) = some ws) : SO (tCall (spO args cond resO) [] E ta) Γ C (resO a) := fun F σ H S s Q q => h F σ H S s _ fun vs H1 S1 g k => by
  subst hT
  rw [List.append_nil]
  refine ⟨a, H1, Same.refl _, k, hc, fun p us H2 S2 g2 hp h1 h2 k2 => ?_⟩
  have e0 : S1 p = none := same_none g.sub hp
  refine q p us H2 S1 (g.trans ⟨g2.keep, g2.there, Same.refl _, g.sub.trans g2.same, fun _ _ z => .inl z⟩) (g.there _ hp) h1 e0 ?_
  have : ∀ {ds : List PyData} {vs ws : List V} {A B : Hp}, DqAll A vs ds → atvs ds = some ws → DqAll B vs ds := by
    intro ds
    induction ds with
    | nil => intro vs ws A B h _; cases h; exact .nil
    | cons d ds ih =>
      intro vs ws A B h e
      cases h with
      | cons h1 h2 =>
        unfold atvs at e
        split at e
        · rename_i v vs e1 e2
          refine .cons ?_ (ih h2 e2)
          have hv := atv_dp h1 e1
          subst hv
          cases h1 with
          | non => exact .non
          | bl b => exact .bl b
          | int i => exact .int i
          | str x => exact .str x
          | lst _ _ => simp [atv] at e1
          | tup _ _ => simp [atv] at e1
        · cases e
  exact this k2 hA
/-! objects -/
def tObj (Cl : Addr) (ns : List Str) (Ts : List Ty) : Ty := ⟨fun S v => ∃ a dx fs, v = .ref a ∧ S a = some (.ins Cl dx fs) ∧ fs.map (fun p : Str × V => p.1) = ns ∧ Tys S Ts (fs.map fun p : Str × V => p.2), fun e ⟨a, dx, fs, h1, h2, h3, h4⟩ => ⟨a, dx, fs, h1, e _ _ h2, h3, Tys.mono e h4⟩⟩
def pI (Cl : Addr) (ns : List Str) (Ts : List Ty) : P1 := ⟨fun S o => ∃ dx fs, o = .ins Cl dx fs ∧ fs.map (fun p : Str × V => p.1) = ns ∧ Tys S Ts (fs.map fun p : Str × V => p.2), fun ⟨dx, fs, h, _⟩ => h ▸ id, fun e ⟨dx, fs, h1, h2, h3⟩ => ⟨dx, fs, h1, h2, Tys.mono e h3⟩⟩
abbrev cI (p Cl : Addr) (ns : List Str) (Ts : List Ty) : Cell := c1 p (pI Cl ns Ts)
theorem lookup_at : ∀ {fs : List (Str × V)} {i : Nat} {f : Str} {v : V}, (fs.map (fun p : Str × V => p.1)).Nodup → fs[i]? = some (f, v) → fs.lookup f = some v
  | [], i, f, v, _, h => by simp at h
  | (g, w) :: r, 0, f, v, _, h => by
    simp at h
    obtain ⟨rfl, rfl⟩ := h
    simp [List.lookup]
  | (g, w) :: r, i + 1, f, v, hn, h => by
    rw [List.map_cons, List.nodup_cons] at hn
    have h' : r[i]? = some (f, v) := by simpa using h
    have ne : ¬ f = g := fun e => hn.1 (e ▸ List.mem_map.mpr ⟨(f, v), List.mem_of_getElem? h', rfl⟩)
    have q : (f == g) = false := by simpa using ne
    rw [List.lookup, q]
    exact lookup_at hn.2 h'
theorem lookup_no : ∀ {fs : List (Str × V)} {f : Str}, f ∉ fs.map (fun p : Str × V => p.1) → fs.lookup f = none
  | [], _, _ => rfl
  | (g, w) :: r, f, h => by
    rw [List.map_cons, List.mem_cons, not_or] at h
    have q : (f == g) = false := by simpa using h.1
    rw [List.lookup, q]
    exact lookup_no h.2
theorem putF_no : ∀ {fs : List (Str × V)} {f : Str} {v : V}, f ∉ fs.map (fun p : Str × V => p.1) → putF f v fs = fs ++ [(f, v)]
  | [], _, _, _ => rfl
  | (g, w) :: r, f, v, h => by
    rw [List.map_cons, List.mem_cons, not_or] at h
    show (if g = f then _ else (g, w) :: putF f v r) = _
    rw [if_neg fun e => h.1 e.symm, putF_no h.2]
    rfl
theorem putF_at : ∀ {fs : List (Str × V)} {i : Nat} {f : Str} {w v : V}, (fs.map (fun p : Str × V => p.1)).Nodup → fs[i]? = some (f, w) → putF f v fs = fs.set i (f, v)
  | [], i, f, _, _, _, h => by simp at h
  | (g, w) :: r, 0, f, _, v, _, h => by
    simp at h
    obtain ⟨rfl, rfl⟩ := h
    show (if g = g then _ else _) = _
    rw [if_pos rfl]
    rfl
  | (g, w) :: r, i + 1, f, z, v, hn, h => by
    rw [List.map_cons, List.nodup_cons] at hn
    have h' : r[i]? = some (f, z) := by simpa using h
    have ne : ¬ g = f := fun e => hn.1 (e ▸ List.mem_map.mpr ⟨(f, z), List.mem_of_getElem? h', rfl⟩)
    show (if g = f then _ else (g, w) :: putF f v r) = _
    rw [if_neg ne, putF_at hn.2 h']
    rfl
theorem fld_at {fs : List (Str × V)} {S : Hp} (hn : fs.map (fun p : Str × V => p.1) = ns) (hk : Tys S Ts (fs.map fun p : Str × V => p.2)) (hi : ns[i]? = some f) (hT : Ts[i]? = some T) : ∃ v, fs[i]? = some (f, v) ∧ T.ok S v := by
  obtain ⟨v, e, k⟩ := Tys.get hk hT
  rw [List.getElem?_map] at e
  cases h : fs[i]? with
  | none => rw [h] at e; cases e
  | some p =>
    rw [h] at e
    subst hn
    rw [List.getElem?_map, h] at hi
    cases hi
    cases e
    exact ⟨_, rfl, k⟩
theorem e_fld (he : SE m te Γ C (tObj Cl ns Ts)) (c : Cls K Cl) (na : NoAttr K Cl f) (hi : ns[i]? = some f) (hT : Ts[i]? = some T) (hnd : ns.Nodup) : SE m (tFld K te f) Γ C T := fun F σ H S s Q q => he F σ H S s _ fun v H1 S1 g k => by
  obtain ⟨a, dx, fs, rfl, h1, h2, h3⟩ := k
  obtain ⟨w, e1, e2⟩ := fld_at h2 h3 hi hT
  exact ⟨a, Cl, dx, fs, w, rfl, vw_sub g.sub _ _ h1, c, na, lookup_at (h2 ▸ hnd) e1, q w H1 S1 g e2⟩
theorem e_fldC {p : Addr} (ho : SE true te Γ C (tV (.ref p))) (hc : cI p Cl ns Ts ∈ C) (c : Cls K Cl) (na : NoAttr K Cl f) (hi : ns[i]? = some f) (hT : Ts[i]? = some T) (hnd : ns.Nodup) : SE true (tFld K te f) Γ C T := fun F σ H S s Q q => ho F σ H S s _ fun v H1 S1 g kv => by
  have kv : v = .ref p := kv
  subst kv
  obtain ⟨o, h0, _, dx, fs, rfl, h2, h3⟩ := (s.grow g).cl.one hc
  obtain ⟨w, e1, e2⟩ := fld_at h2 h3 hi hT
  exact ⟨p, Cl, dx, fs, w, rfl, h0, c, na, lookup_at (h2 ▸ hnd) e1, q w H1 S1 g e2⟩
/-- e.f = x, f new; the object at the cells' head -/
theorem ss_fldN {p : Addr} (he : SE true tb Γ (cI p Cl ns Ts :: C) T) (ho : SE true te Γ (cI p Cl ns Ts :: C) (tV (.ref p))) (c : Cls K Cl) (na : NoAttr K Cl f) (hf : f ∉ ns) (hl : ns.length < 1000) (h : SS F u Γ (cI p Cl (ns ++ [f]) (Ts ++ [T]) :: C) O) :
    SS F (tSeq (sFld K te tb f) u) Γ (cI p Cl ns Ts :: C) O := fun σ H S s D o => he F σ H S s _ fun w H1 S1 g1 k1 => ho F σ H1 S1 (s.grow g1) _ fun v H2 S2 g2 kv => by
  have kv : v = .ref p := kv
  subst kv
  have s2 := s.grow (g1.trans g2)
  obtain ⟨ob, h0, _, dx, fs, rfl, h2, h3⟩ := s2.cl.one List.mem_cons_self
  refine ⟨p, Cl, dx, fs, rfl, h0, c, na, by rw [← h2, List.length_map] at hl; exact hl, ?_⟩
  refine h σ _ S2 (s2.write (X' := pI Cl (ns ++ [f]) (Ts ++ [T])) ⟨dx, _, rfl, ?_, ?_⟩) D (o.grow (g1.trans g2).s)
  · rw [putF_no (h2 ▸ hf), List.map_append, h2]
    rfl
  · rw [putF_no (h2 ▸ hf), List.map_append]
    exact tys_app h3 ⟨T.mono g2.s k1, trivial⟩
/-- e.f = x, f there -/
theorem ss_fldS {p : Addr} (he : SE true tb Γ (cI p Cl ns Ts :: C) T) (ho : SE true te Γ (cI p Cl ns Ts :: C) (tV (.ref p))) (c : Cls K Cl) (na : NoAttr K Cl f) (hi : ns[i]? = some f) (hnd : ns.Nodup) (hl : ns.length < 1000) (h : SS F u Γ (cI p Cl ns (Ts.set i T) :: C) O) :
    SS F (tSeq (sFld K te tb f) u) Γ (cI p Cl ns Ts :: C) O := fun σ H S s D o => he F σ H S s _ fun w H1 S1 g1 k1 => ho F σ H1 S1 (s.grow g1) _ fun v H2 S2 g2 kv => by
  have kv : v = .ref p := kv
  subst kv
  have s2 := s.grow (g1.trans g2)
  obtain ⟨ob, h0, _, dx, fs, rfl, h2, h3⟩ := s2.cl.one List.mem_cons_self
  refine ⟨p, Cl, dx, fs, rfl, h0, c, na, by rw [← h2, List.length_map] at hl; exact hl, ?_⟩
  obtain ⟨x, hx⟩ : ∃ x, fs[i]? = some (f, x) := by
    subst h2
    rw [List.getElem?_map] at hi
    cases e : fs[i]? with
    | none => rw [e] at hi; cases hi
    | some y => rw [e] at hi; cases hi; exact ⟨_, rfl⟩
  refine h σ _ S2 (s2.write (X' := pI Cl ns (Ts.set i T)) ⟨dx, _, rfl, ?_, ?_⟩) D (o.grow (g1.trans g2).s)
  · rw [putF_at (h2 ▸ hnd) hx, List.map_set, h2]
    obtain ⟨z, e⟩ := List.getElem?_eq_some_iff.mp hi
    show ns.set i f = ns
    rw [← e, List.set_getElem_self]
  · rw [putF_at (h2 ▸ hnd) hx, List.map_set]
    exact tys_set (T.mono g2.s k1) i h3
/-! C(..) -/
def spI {α : Type} (Cl : Addr) (ns : List Str) (args : α → List Ty) (cond : α → Prop) (Ts : α → List Ty) : Sp := fun vs H Q _ => ∃ (a : α) (x dx : Addr) (us : List V) (L : Hp), vs = .ref x :: us ∧ H x = some (.ins Cl dx []) ∧ Same L H ∧ L x = none ∧ Tys L (args a) us ∧ cond a ∧
  ∀ H' N dx' fs, Gr (fun q => q = x) H (tupOf L) H' N → H' x = some (.ins Cl dx' fs) → N x = none → fs.map (fun p : Str × V => p.1) = ns → Tys N (Ts a) (fs.map fun p : Str × V => p.2) → Q .non H'
theorem e_make {Tf : α → List Ty} (a : α) (h : SA false ta Γ C Ts) (hT : Ts = args a) (hc : cond a) : SE true (tMake Cl (spI Cl ns args cond Tf) [] E ta) Γ C (tObj Cl ns (Tf a)) := fun F σ H S s Q q => h F σ H S s _ fun vs H1 S1 g k x dx hx hdx hne => by
  subst hT
  rw [List.append_nil]
  have hx2 : upd (upd H1 dx (.own x)) x (.ins Cl dx []) x = some (.ins Cl dx []) := upd_same
  have s12 : Same H1 (upd (upd H1 dx (.own x)) x (.ins Cl dx [])) := fun b o e => by
    rw [upd_ne (ne_of_none e hx), upd_ne (ne_of_none e hdx)]; exact e
  refine ⟨a, x, dx, vs, H1, rfl, hx2, s12, hx, k, hc, fun H' N dx' fs g2 h1 h2 h3 h4 => ⟨rfl, ?_⟩⟩
  have k1 : ∀ b o, H1 b = some o → H' b = some o := fun b o e => g2.keep b o (s12 b o e) (ne_of_none e hx)
  have sN : Same (upd N x (.ins Cl dx' fs)) H' := fun b o e => by
    by_cases z : b = x
    · subst z; rw [upd_same] at e; rw [h1]; exact e
    · rw [upd_ne z] at e; exact g2.sub b o e
  have sS : Same S1 H' := fun b o e => k1 b o (g.sub b o e)
  refine q (.ref x) H' (over (upd N x (.ins Cl dx' fs)) S1) (g.trans ⟨fun b o e _ => k1 b o e, fun b e => same_none s12 (g2.there b e), fun b o e => ?_, over_sub sN sS, fun b o e => ?_⟩) ⟨x, dx', fs, rfl, over_in upd_same, h3, Tys.mono ((same_upd h2).trans over_l) h4⟩
  · cases z : upd N x (.ins Cl dx' fs) b with
    | none => rw [over_out z]; exact e
    | some o' =>
      rw [over_in z]
      have e1 := sN b o' z
      rw [sS b o e] at e1
      exact e1.symm
  · cases z : upd N x (.ins Cl dx' fs) b with
    | none => rw [over_out z] at e; exact .inl e
    | some o' =>
      rw [over_in z] at e
      cases e
      by_cases zz : b = x
      · subst zz; exact .inr (.inl hx)
      · rw [upd_ne zz] at z
        rcases g2.new b o z with e | e | e
        · exact .inr (.inr (tup_isT e))
        · exact .inr (.inl (same_none s12 e))
        · exact .inr (.inr e)
end
/-! bodies -/
section
variable {P : Program} {w : World} {K : PySem.W.Frag} {mg : Str → Option Value} {base : Heap} {x : Str} {st : Stmt} {N ps : List Str} {k : Nat} {α : Type} {args : α → List Ty} {cond : α → Prop}
theorem tys_ov {L : Hp} : ∀ {Ts : List Ty} {vs : List V}, Tys L Ts vs → Tys (tupOf L) (Ts.map (tOv (ntOf L))) vs
  | [], [], _ => trivial
  | T :: _, v :: _, h => ⟨by show T.ok (over (ntOf L) (tupOf L)) v; rw [over_nt]; exact h.1, tys_ov h.2⟩
  | [], _ :: _, h => h.elim
  | _ :: _, [], h => h.elim
theorem fn_V {res : α → Ty} (D : Def K mg x st ps) (sc : FnScope N ps (defScope st)) (hlen : ∀ a, (args a).length = ps.length)
    (body : ∀ (f : Addr) (cdv : Value) (A : Around) (outer : List Env) (s : Shared) (H : Hp) (E : XK), Room k (A.deeper (PyProof.Rows.envOfC x (defScope st) s.heap.objs.size f cdv)) →
      ∃ t, PSs (cxOf CX0 P w K mg base N x (defScope st) f cdv A outer s H E).nox (defBody st) t ∧ ∀ (a : α) (F : Fr0) (L : Hp), F.M = M0 → NoT L → cond a → SS F t (gam ((args a).map (tOv L)) N.length) [(cReg L).ro] (retP F (res a))) : Cal P w K mg base (k + 1) x ps (spV args cond res) := by
  obtain ⟨f, fd, Fn, hm, hb⟩ := D.ex
  have hpl : ps.length ≤ N.length := by have := congrArg List.length sc.pre; rw [List.length_take] at this; omega
  refine ⟨f, fd, Fn.ok sc (fun vs H Q E h => ?_) (fun cdv A outer s H vs Q E hr h => ?_), hm, Fn.kp, hb⟩
  · obtain ⟨a, L, _, h, _⟩ := h
    rw [Tys.len h, hlen]
  · obtain ⟨a, L, hL, ht, hc, q⟩ := h
    obtain ⟨t, h1, h2⟩ := body f cdv A outer s H E hr
    have cl : CellsOk [(cReg (ntOf L)).ro] H (tupOf L) := CellsOk.nil.cons (fun q o e => hL q o (nt_sub q o e)) (fun q ⟨o, e⟩ => ⟨nt_tup e, o, hL q o (nt_sub q o e), nt_not e⟩) fun _ z => (nomatch z)
    refine ⟨t, h1, h2 a ⟨M0, H, tupOf L⟩ (ntOf L) rfl (fun q o e => nt_not e) hc _ H (tupOf L) (gam_ok (tys_ov ht) (Gr.refl (tup_sub.trans hL)) (by rw [List.length_map, hlen]; exact hpl) cl (fun c hc hw => ?_)) _ ⟨fun σ H' S' _ h => q _ H' S' h.1 h.2, fun v H' S' _ h => q _ H' S' h.1 h.2, fun _ _ _ _ z => z.elim, fun _ _ _ _ z => z.elim, fun _ _ _ _ _ _ z => z.elim⟩⟩
    rw [List.mem_singleton.mp hc] at hw
    cases hw
/-- a class and its __init__ as the top has laid them -/
structure DefI (K : PySem.W.Frag) (mg : Str → Option Value) (Cl : Addr) (x qual : Str) (st : Stmt) (ps : List Str) : Prop where
  ex : ∃ (f : Addr) (fd : FuncData), Fun K "__init__" qual st f fd ∧ Mk K Cl f ∧ mg x = some (.ref Cl) ∧ ∀ us : List Value, us.length = ps.length → bindArgs fd ⟨us, []⟩ = pure (ps.zip us)
theorem defI_mk {h : Heap} {Cl f : Addr} {qual : Str} {oc : Value} {od an : Option Addr} {sl : Array (Option Value)} {kV dc pm cd ct : Value} (X : K.In h) (G : h.Ns mainGlobals mg)
    (a : PySem.W.nsIn K mainGlobals x = some (some (.ref Cl))) (m1 : PySem.W.makesIn K Cl = true) (m2 : PySem.W.findIn K (.ref Cl) "__init__" = some (some (.ref f))) (m3 : PySem.W.isFn K (.ref f) = true) (m4 : PySem.W.keepIn K (.ref Cl) = true)
    (l : K.lookup f = some ⟨oc, od, .func (PySem.W.fnOf "__init__" qual (defArgs st) (defBody st) (defScope st) .none kV dc pm an cd ct), sl⟩) (c : PySem.W.codeIn K cd qual = true) (kk : PySem.W.keepIn K (.ref f) = true)
    (b : ∀ (kV doc pm : Value) (an : Option Addr) (cdv ct : Value) (us : List Value), us.length = ps.length → bindArgs (PySem.W.fnOf "__init__" qual (defArgs st) (defBody st) (defScope st) .none kV doc pm an cdv ct) ⟨us, []⟩ = pure (ps.zip us)) : DefI K mg Cl x qual st ps :=
  ⟨f, _, fun_mk l c kk, ⟨m1, m2, m3, m4⟩, PySem.W.mg_of X G a, fun us hl => b kV dc pm an cd ct us hl⟩
structure CalI (P : Program) (w : World) (K : PySem.W.Frag) (mg : Str → Option Value) (base : Heap) (k : Nat) (Cl : Addr) (x : Str) (ps : List Str) (sp : Sp) : Prop where
  ex : ∃ (f : Addr) (fd : FuncData), FnOk P w K mg base CX0 k f fd ps sp ∧ Mk K Cl f ∧ mg x = some (.ref Cl) ∧ ∀ us : List Value, us.length = ps.length → bindArgs fd ⟨us, []⟩ = pure (ps.zip us)
theorem pmk {X : Cx} {j k : Nat} {Cl : Addr} {x : Str} {sp : Sp} {p pos : Pos} {e : Expr} {es : List Expr} {t : TA} {ps : List Str} (c : CalI X.prog X.w X.K X.mg X.base j Cl x ps sp) (hr : Room k X.A) (ha : PA X (e :: es) t) (hj : j + 1 ≤ k := by decide) (hg : Gl X x := by rfl)
    (hdb : (x == ("__debug__" : Str)) = false := by decide) (he : starEach (e :: es) X.env = (false, eval e X.env) :: starEach es X.env := by rfl) (hpl : (backTo pos (starEach es X.env)).any (·.1) = false := by rfl) :
    PE X (.Call (.Name x p) (e :: es) [] pos) (tMake Cl sp [] E0 t) := by
  obtain ⟨f, fd, F, M, hm, hb⟩ := c.ex
  exact pe_make M F (hr.mono hj) hg hm (Binds.all hb) .nil pass0 ha hdb he hpl
theorem fn_I {Cl : Addr} {qual : Str} {ns : List Str} {Tf : α → List Ty} (D : DefI K mg Cl x qual st ps) (sc : FnScope N ps (defScope st)) (hlen : ∀ a, (args a).length + 1 = ps.length)
    (body : ∀ (f : Addr) (cdv : Value) (A : Around) (outer : List Env) (s : Shared) (H : Hp) (E : XK), Room k (A.deeper (PyProof.Rows.envOfC qual (defScope st) s.heap.objs.size f cdv)) →
      ∃ t, PSs (cxOf CX0 P w K mg base N qual (defScope st) f cdv A outer s H E).nox (defBody st) t ∧ ∀ (a : α) (F : Fr0) (L : Hp) (x : Addr), NoT L → cond a → SS F t (gam (tV (.ref x) :: (args a).map (tOv L)) N.length) [cI x Cl [] [], (cReg L).ro] { nx := fun _ H S => Gr F.M F.H F.S H S ∧ CellsOk [cI x Cl ns (Tf a)] H S, rt := fun _ _ _ => False }) : CalI P w K mg base (k + 1) Cl x ps (spI Cl ns args cond Tf) := by
  obtain ⟨f, fd, Fn, hM, hm, hb⟩ := D.ex
  have hpl : ps.length ≤ N.length := by have := congrArg List.length sc.pre; rw [List.length_take] at this; omega
  refine ⟨f, fd, Fn.ok sc (fun vs H Q E h => ?_) (fun cdv A outer s H vs Q E hr h => ?_), hM, hm, hb⟩
  · obtain ⟨a, x, dx, us, L, rfl, _, _, _, h, _⟩ := h
    rw [List.length_cons, Tys.len h, hlen]
  · obtain ⟨a, x, dx, us, L, rfl, hx, hL, hLx, ht, hc, q⟩ := h
    obtain ⟨t, h1, h2⟩ := body f cdv A outer s H E hr
    have hSx : tupOf L x = none := same_none tup_sub hLx
    have cl : CellsOk [cI x Cl [] [], (cReg (ntOf L)).ro] H (tupOf L) := (CellsOk.nil.cons (c := (cReg (ntOf L)).ro) (fun q o e => hL q o (nt_sub q o e)) (fun q ⟨o, e⟩ => ⟨nt_tup e, o, hL q o (nt_sub q o e), nt_not e⟩) fun _ z => (nomatch z)).cons (c := cI x Cl [] []) ⟨_, hx, dx, [], rfl, rfl, trivial⟩ (fun q e => by
      have e : q = x := e
      subst e
      exact ⟨hSx, _, hx, id⟩) fun c hc b e e3 => by
      rw [List.mem_singleton.mp hc] at e3
      obtain ⟨o, e2⟩ := e3
      have e : b = x := e
      rw [e] at e2
      rw [nt_sub x o e2] at hLx; cases hLx
    have tt : Tys (tupOf L) (tV (.ref x) :: (args a).map (tOv (ntOf L))) (.ref x :: us) := ⟨rfl, tys_ov ht⟩
    refine ⟨t, h1, h2 a ⟨fun q => q = x, H, tupOf L⟩ (ntOf L) x (fun q o e => nt_not e) hc _ H (tupOf L) (gam_ok tt (Gr.refl (tup_sub.trans hL)) (by rw [List.length_cons, List.length_map, hlen]; exact hpl) cl (fun c hc hw q e => ?_)) _ ⟨fun σ H' S' _ h => ?_, fun v H' S' _ z => z.elim, fun _ _ _ _ z => z.elim, fun _ _ _ _ z => z.elim, fun _ _ _ _ _ _ z => z.elim⟩⟩
    · rcases List.mem_cons.mp hc with z | hc
      · subst z; exact .inl e
      · rw [List.mem_singleton.mp hc] at hw
        cases hw
    · obtain ⟨g, k⟩ := h
      obtain ⟨o, h0, h1, dx', fs, rfl, h2, h3⟩ := k.one List.mem_cons_self
      exact q H' S' dx' fs g h0 h1 h2 h3
end
end Sw
namespace Sw
open PySem L2
section
variable {m : Bool} {Γ : List Sl} {C : List Cell} {te tb : TE} {T : Ty} {Ts : List Ty} {K : PySem.W.Frag} {L : Hp} {ds : List PyData} {d : PyData} {Cl : Addr} {ns : List Str} {f : Str}
/-- a field, an item of what is seen, seen -/
theorem e_fldOv {i : Nat} (he : SE true te Γ C (tOv L (tObj Cl ns Ts))) (hr : HasR C L) (c : Cls K Cl) (na : NoAttr K Cl f) (hi : ns[i]? = some f) (hT : Ts[i]? = some T) (hnd : ns.Nodup) : SE true (tFld K te f) Γ C (tOv L T) := fun F σ H S s Q q => he F σ H S s _ fun v H1 S1 g k => by
  obtain ⟨a, dx, fs, rfl, h1, h2, h3⟩ := k
  obtain ⟨w, e1, e2⟩ := fld_at h2 h3 hi hT
  exact ⟨a, Cl, dx, fs, w, rfl, over_sub (hr H1 S1 (s.grow g).cl) g.sub _ _ h1, c, na, lookup_at (h2 ▸ hnd) e1, q w H1 S1 g e2⟩
theorem e_ixOv {k : Int} (he : SE true te Γ C (tOv L (tLs ds))) (hr : HasR C L) (hb : SE true tb Γ C (tI k)) (e : atI ds k = some d) : SE true (tOp (rIxL K) te tb) Γ C (tOv L (tD d)) := fun F σ H S s Q q => he F σ H S s _ fun v H1 S1 g1 k1 => hb F σ H1 S1 (s.grow g1) _ fun y H2 S2 g2 ky => by
  obtain ⟨a, xs, rfl, h1, h2⟩ := dp_lst (dp_mono (over_mono g2.s) _ _ k1)
  obtain ⟨w, e1, e2⟩ := dps_atI h2 e
  have g := g1.trans g2
  rw [dp_int ky]
  exact ⟨a, xs, k, w, rfl, rfl, SqL.of (over_sub (hr H2 S2 (s.grow g).cl) g.sub _ _ h1), e1, q w H2 S2 g e2⟩
theorem e_ixTOv {k : Int} (he : SE true te Γ C (tOv L (tTp ds))) (hr : HasR C L) (hb : SE true tb Γ C (tI k)) (e : atI ds k = some d) : SE true (tOp (rIxT K) te tb) Γ C (tOv L (tD d)) := fun F σ H S s Q q => he F σ H S s _ fun v H1 S1 g1 k1 => hb F σ H1 S1 (s.grow g1) _ fun y H2 S2 g2 ky => by
  obtain ⟨a, xs, rfl, h1, h2⟩ := dp_tup (dp_mono (over_mono g2.s) _ _ k1)
  obtain ⟨w, e1, e2⟩ := dps_atI h2 e
  have g := g1.trans g2
  rw [dp_int ky]
  exact ⟨a, xs, k, w, rfl, rfl, SqT.of (over_sub (hr H2 S2 (s.grow g).cl) g.sub _ _ h1), e1, q w H2 S2 g e2⟩
end
end Sw
/-! regions: new data that may be written later -/
namespace Sw
open PySem L2
theorem tup_mono {S S' : Hp} (e : Same S S') : Same (tupOf S) (tupOf S') := fun q o h => by
  have h1 := e q o (tup_sub q o h)
  have h2 := tup_isT h
  cases o with
  | tup xs => unfold tupOf; rw [h1]
  | _ => exact h2.elim
theorem tup_of {S : Hp} {q : Addr} {xs : List V} (h : S q = some (.tup xs)) : tupOf S q = some (.tup xs) := by unfold tupOf; rw [h]
/-- data whose lists are all in L -/
def tRg (L : Hp) (d : PyData) : Ty := ⟨fun S v => Dq (over L (tupOf S)) v d, fun e h => dp_mono (over_mono (tup_mono e)) d _ h⟩
theorem over_tup {L S : Hp} : Same (over L (tupOf S)) (over L S) := fun q o h => by
  cases z : L q with
  | some u => rw [over_in z] at h ⊢; exact h
  | none => rw [over_out z] at h ⊢; exact tup_sub q o h
/-- what is new, split: its tuples settle, the rest is a region -/
theorem Stt.region {F : Fr0} {Γ : List Sl} {C : List Cell} {σ : L2.St} {H S H1 N : Hp} (s : Stt F Γ C σ H S) (hk : Same H H1) (ht : ∀ q, H1 q = none → H q = none) (hN : Same N H1) (hn : ∀ q o, N q = some o → H q = none ∨ isT o) :
    Stt F Γ (cReg (ntOf N) :: C) σ H1 (over (tupOf N) S) ∧ Same S (over (tupOf N) S) ∧ (∀ q o, ntOf N q = some o → F.H q = none) ∧ Same (tupOf N) (tupOf (over (tupOf N) S)) := by
  have sS : Same S H1 := s.sub.trans hk
  have sT : Same (tupOf N) H1 := tup_sub.trans hN
  have e1 : Same S (over (tupOf N) S) := fun q o h => by
    cases z : tupOf N q with
    | none => rw [over_out z]; exact h
    | some u =>
      rw [over_in z]
      have := sT q u z
      rw [sS q o h] at this
      exact this.symm
  have g : Gr0 H S H1 (over (tupOf N) S) := ⟨fun q o h _ => hk q o h, ht, e1, over_sub sT sS, fun q o h => by
    cases z : tupOf N q with
    | none => rw [over_out z] at h; exact .inl h
    | some u => rw [over_in z] at h; cases h; exact .inr (.inr (tup_isT z))⟩
  have fr : ∀ q o, ntOf N q = some o → H q = none := fun q o h => (hn q o (nt_sub q o h)).resolve_right (nt_not h)
  refine ⟨s.newC (c := cReg (ntOf N)) g (fun q ⟨o, h⟩ => fr q o h) (fun q o h => hN q o (nt_sub q o h)) (fun q ⟨o, h⟩ => ⟨?_, o, hN q o (nt_sub q o h), nt_not h⟩), e1, fun q o h => s.g.there q (fr q o h), fun q o h => ?_⟩
  · rw [over_out (nt_tup h)]
    exact same_none s.sub (fr q o h)
  · have h1 : over (tupOf N) S q = some o := over_in h
    have h2 := tup_isT h
    cases o with
    | tup xs => exact tup_of h1
    | _ => exact h2.elim
def dataOf (S : Hp) : Hp := fun q => match S q with
  | some (.lst xs) => some (.lst xs)
  | some (.tup xs) => some (.tup xs)
  | _ => none
mutual
theorem dq_data {S : Hp} : ∀ (d : PyData) (v : V), Dq S v d → Dq (dataOf S) v d
  | .none, _, h => by cases h; exact .non
  | .bool _, _, h => by cases h; exact .bl _
  | .int _, _, h => by cases h; exact .int _
  | .str _, _, h => by cases h; exact .str _
  | .list ds, _, h => by
    cases h with
    | lst hs ha => exact .lst (by unfold dataOf; rw [hs]) (dqs_data ds _ ha)
  | .tuple ds, _, h => by
    cases h with
    | tup hs ha => exact .tup (by unfold dataOf; rw [hs]) (dqs_data ds _ ha)
  | .dict _, _, h => by cases h
theorem dqs_data {S : Hp} : ∀ (ds : List PyData) (vs : List V), DqAll S vs ds → DqAll (dataOf S) vs ds
  | [], _, h => by cases h; exact .nil
  | d :: ds, _, h => by
    cases h with
    | cons h1 h2 => exact .cons (dq_data d _ h1) (dqs_data ds _ h2)
end
def frzOf (S : Hp) : Hp := fun q => match S q with
  | some (.frz o u) => some (.frz o u)
  | _ => none
theorem frz_sub {S : Hp} : Same (frzOf S) S := fun q o h => by
  unfold frzOf at h
  split at h
  · rename_i e; rw [e]; exact h
  · cases h
theorem data_sub {S : Hp} : Same (dataOf S) S := fun q o h => by
  unfold dataOf at h
  split at h
  · rename_i e; rw [e]; exact h
  · rename_i e; rw [e]; exact h
  · cases h
theorem data_frz {S : Hp} {q : Addr} {o : HO} (h : dataOf S q = some o) : frzOf S q = none := by
  unfold dataOf at h
  unfold frzOf
  split at h
  · rename_i e; rw [e]
  · rename_i e; rw [e]
  · cases h
theorem Scr.frz {K : PySem.W.Frag} {S : Hp} {a : Addr} {ns : List Int} (h : Scr K S a ns) : Scr K (frzOf S) a ns := by
  rcases h with ⟨o, h⟩ | h
  · exact .inl ⟨o, by unfold frzOf; rw [h]⟩
  · exact .inr h
/-- what leans on frozen things alone -/
def FrzT (T : Ty) : Prop := ∀ S v, T.ok S v → T.ok (frzOf S) v
theorem frz_scr {K : PySem.W.Frag} {ns : List Int} : FrzT (tScr K ns) := fun S v ⟨a, h1, h2⟩ => ⟨a, h1, h2.frz⟩
theorem frz_atom {T : Ty} (h : Atom T) : FrzT T := fun S v k => h S _ v k
theorem tys_frz {S : Hp} : ∀ {Ts : List Ty} {vs : List V}, (∀ T ∈ Ts, FrzT T) → Tys S Ts vs → Tys (frzOf S) Ts vs
  | [], [], _, _ => trivial
  | T :: _, v :: _, h, k => ⟨h T List.mem_cons_self S v k.1, tys_frz (fun T hT => h T (List.mem_cons_of_mem _ hT)) k.2⟩
  | [], _ :: _, _, k => k.elim
  | _ :: _, [], _, k => k.elim
section
variable {F : Fr0} {m : Bool} {Γ Γ' : List Sl} {C Cr Cq cs : List Cell} {te tb ti to : TE} {tr ta : TA} {T T' : Ty} {Ts : List Ty} {O : Out} {u : TS} {i : Nat} {K : PySem.W.Frag} {L : Hp} {ds : List PyData} {d : PyData} {α : Type} {args : α → List Ty} {cond : α → Prop} {E : XK}
theorem e_rg (h : SE true te Γ C (tRg L d)) : SE true te Γ C (tOv L (tD d)) := fun F σ H S s Q q => h F σ H S s Q fun v H1 S1 g k => q v H1 S1 g (dp_mono over_tup _ _ k)
/-- a call of a pure def by what is frozen and atoms: its data as a region -/
theorem m_rgP {res : α → PyData} (a : α) (h : SA true ta Γ C Ts) (hT : Ts = args a) (hc : cond a) (hf : ∀ T ∈ args a, FrzT T) :
    SM (tCall (spP args cond fun a => tD (res a)) [] E ta) Γ C NoT (fun L => tRg L (res a)) (fun L => cReg L :: C) (fun L q => ∃ o, L q = some o) := fun F σ H S s Q q => h F σ H S s _ fun vs H1 S1 g k => by
  subst hT
  rw [List.append_nil]
  refine ⟨a, frzOf S1, frz_sub.trans g.sub, tys_frz hf k, hc, fun v H2 S2 g2 k2 => ?_⟩
  have s1 := s.grow g
  obtain ⟨r1, r2, r3, r4⟩ := s1.region (N := dataOf S2) g2.same g2.there (data_sub.trans g2.sub) fun q o e => by
    rcases g2.new q o (data_sub q o e) with z | z | z
    · have := g2.s q o z
      have z2 := data_frz e
      unfold frzOf at z z2
      rw [data_sub q o e] at z2
      split at z
      · cases z; cases z2
      · cases z
    · exact .inl z
    · exact .inr z
  refine q (ntOf (dataOf S2)) v H2 _ (fun q o e => nt_not e) (g.s.trans r2) ?_ (fun q ⟨o, e⟩ => r3 q o e) r1
  have := dq_data _ _ k2
  rw [← over_nt (dataOf S2)] at this
  exact dp_mono (over_mono r4) _ _ this
/-- the same of a def that takes views -/
theorem m_rgV {res : α → PyData} (a : α) (h : SA false ta Γ C Ts) (hT : Ts = args a) (hc : cond a) :
    SM (tCall (spV args cond fun a => tD (res a)) [] E ta) Γ C NoT (fun L => tRg L (res a)) (fun L => cReg L :: C) (fun L q => ∃ o, L q = some o) := fun F σ H S s Q q => h F σ H S s _ fun vs H1 S1 g k => by
  subst hT
  rw [List.append_nil]
  refine ⟨a, H1, Same.refl _, k, hc, fun v H2 N g2 k2 => ?_⟩
  have s1 := s.grow g
  obtain ⟨r1, r2, r3, r4⟩ := s1.region (N := N) g2.same g2.there g2.sub fun q o e => by
    rcases g2.new q o e with z | z | z
    · exact .inr (tup_isT z)
    · exact .inl z
    · exact .inr z
  refine q (ntOf N) v H2 _ (fun q o e => nt_not e) (g.s.trans r2) ?_ (fun q ⟨o, e⟩ => r3 q o e) r1
  have : Dq (over (ntOf N) (tupOf N)) v (res a) := by rw [over_nt]; exact k2
  exact dp_mono (over_mono r4) _ _ this
/-! a region whose lists of whole numbers change -/
def JOk (o o' : HO) : Prop := o' = o ∨ ∃ l l' : List Int, l ≠ [] ∧ l' ≠ [] ∧ o = .lst (l.map .int) ∧ o' = .lst (l'.map .int)
def JK (L H : Hp) : Prop := ∀ q o, L q = some o → ∃ o', H q = some o' ∧ JOk o o'
def cJk (L : Hp) : Cell := ⟨fun q => ∃ o, L q = some o, fun _ H => JK L H, fun _ h s q o e => by
  obtain ⟨o', e1, e2⟩ := s q o e
  exact ⟨o', h q o' ⟨o, e⟩ e1, e2⟩, true⟩
def HasJ (C : List Cell) (L : Hp) : Prop := ∀ H S, CellsOk C H S → JK L H
theorem hasJ {C : List Cell} : HasJ (cJk L :: C) L := fun _ _ k => k.head.1
theorem HasJ.tail {c : Cell} (h : HasJ C L) : HasJ (c :: C) L := fun H S k => h H S k.tail
theorem ss_junk (h : SS F u Γ (cJk L :: C) O) : SS F u Γ (cReg L :: C) O := ss_cell (c := cReg L) (c' := cJk L) rfl rfl (fun S H k q o e => ⟨o, k q o e, .inl rfl⟩) h
/-- not a list of whole numbers, or empty -/
def NI (ds : List PyData) : Prop := ∀ l : List Int, l ≠ [] → ds ≠ l.map .int
theorem ni_list {es : List PyData} {ds : List PyData} : NI (.list es :: ds) := fun l hl e => by
  cases l with
  | nil => exact hl rfl
  | cons a l => cases e
theorem ni_tup {es : List PyData} {ds : List PyData} : NI (.tuple es :: ds) := fun l hl e => by
  cases l with
  | nil => exact hl rfl
  | cons a l => cases e
theorem ni_nil : NI [] := fun l hl e => by
  cases l with
  | nil => exact hl rfl
  | cons a l => cases e
theorem ni_map {β : Type} {f : β → PyData} (hf : ∀ b i, f b ≠ .int i) (bs : List β) : NI (bs.map f) := fun l hl e => by
  cases l with
  | nil => exact hl rfl
  | cons a l =>
    cases bs with
    | nil => cases e
    | cons b bs =>
      rw [List.map_cons, List.map_cons] at e
      injection e with e1 e2
      exact hf b a e1
theorem ints_back {S : Hp} : ∀ {l : List Int} {ds : List PyData}, DqAll S (l.map V.int) ds → ds = l.map .int
  | [], _, h => by cases h; rfl
  | a :: l, _, h => by
    cases h with
    | cons h1 h2 =>
      cases h1
      rw [ints_back h2]
      rfl
theorem jk_list {H S : Hp} {v : V} (hJ : JK L H) (h : Dq (over L (tupOf S)) v (.list ds)) (hn : NI ds) : ∃ a xs, v = .ref a ∧ L a = some (.lst xs) ∧ H a = some (.lst xs) ∧ DqAll (over L (tupOf S)) xs ds := by
  obtain ⟨a, xs, rfl, h1, h2⟩ := dp_lst h
  have hL : L a = some (.lst xs) := by
    cases z : L a with
    | some o => rw [over_in z] at h1; exact h1
    | none =>
      rw [over_out z] at h1
      exact (tup_isT h1).elim
  obtain ⟨o', e1, e2⟩ := hJ a _ hL
  refine ⟨a, xs, rfl, hL, ?_, h2⟩
  rcases e2 with rfl | ⟨l, l', hl, _, e, _⟩
  · exact e1
  · cases e
    exact (hn l hl (ints_back h2)).elim
theorem jk_ints {H S : Hp} {v : V} {l : List Int} (hJ : JK L H) (h : Dq (over L (tupOf S)) v (.list (l.map .int))) (hl : l ≠ []) : ∃ a l', v = .ref a ∧ L a = some (.lst (l.map .int)) ∧ H a = some (.lst (l'.map .int)) ∧ l' ≠ [] := by
  obtain ⟨a, xs, rfl, h1, h2⟩ := dp_lst h
  rw [dps_ints h2] at h1
  have hL : L a = some (.lst (l.map .int)) := by
    cases z : L a with
    | some o => rw [over_in z] at h1; exact h1
    | none =>
      rw [over_out z] at h1
      exact (tup_isT h1).elim
  obtain ⟨o', e1, e2⟩ := hJ a _ hL
  rcases e2 with rfl | ⟨l1, l2, hl1, hl2, e, rfl⟩
  · exact ⟨a, l, rfl, hL, e1, hl⟩
  · exact ⟨a, l2, rfl, hL, e1, hl2⟩
theorem e_ixJ {k : Int} (he : SE true te Γ C (tRg L (.list ds))) (hj : HasJ C L) (hn : NI ds) (hb : SE true tb Γ C (tI k)) (e : atI ds k = some d) : SE true (tOp (rIxL K) te tb) Γ C (tRg L d) := fun F σ H S s Q q => he F σ H S s _ fun v H1 S1 g1 k1 => hb F σ H1 S1 (s.grow g1) _ fun y H2 S2 g2 ky => by
  have g := g1.trans g2
  obtain ⟨a, xs, rfl, _, h1, h2⟩ := jk_list (hj H2 S2 (s.grow g).cl) ((tRg L (.list ds)).mono g2.s k1) hn
  obtain ⟨w, e1, e2⟩ := dps_atI h2 e
  rw [dp_int ky]
  exact ⟨a, xs, k, w, rfl, rfl, SqL.of h1, e1, q w H2 S2 g e2⟩
theorem w_listJ (he : SE true te Γ C (tRg L (.list ds))) (hj : HasJ C L) (hn : NI ds) : SWz (iList K te) Γ C ds (tRg L) (JK L) := fun F σ H S s R q => he F σ H S s _ fun v H1 S1 g k => by
  obtain ⟨a, xs, rfl, hL, h1, h2⟩ := jk_list (hj H1 S1 (s.grow g).cl) k hn
  refine ⟨a, rfl, ⟨xs, SqL.of h1⟩, q _ H1 S1 g ⟨_, _, dps_len h2 ▸ walk_list (a := a) (xs := xs), fun H2 S2 e1 e2 z => ?_, fun i b x H2 S2 H3 hb e1 e2 z y => ?_⟩⟩
  · obtain ⟨a', xs', e, hL', h', _⟩ := jk_list z ((tRg L (.list ds)).mono e1 k) hn
    cases e
    rw [hL] at hL'; cases hL'
    exact SqL.of h'
  · obtain ⟨rfl, hx⟩ := y
    exact ⟨S2, Gr.refl e2, dp_mono (over_mono (tup_mono e1)) _ _ (dps_at h2 hb hx)⟩
theorem w_tupJ (he : SE true te Γ C (tRg L (.tuple ds))) (hL : NoT L) : SW (iTup K te) Γ C ds (tRg L) := fun F σ H S s R q => he F σ H S s _ fun v H1 S1 g k => by
  obtain ⟨a, xs, rfl, h1, h2⟩ := dp_tup k
  have hS : S1 a = some (.tup xs) := by
    cases z : L a with
    | some o => rw [over_in z] at h1; cases h1; exact (hL a _ z trivial).elim
    | none => rw [over_out z] at h1; exact tup_sub a _ h1
  refine ⟨a, rfl, ⟨xs, SqT.of (g.sub _ _ hS)⟩, q _ H1 S1 g ⟨_, _, dps_len h2 ▸ walk_tup (a := a) (xs := xs), fun H2 S2 e1 e2 _ => SqT.of ((e1.trans e2) _ _ hS), fun i b x H2 S2 H3 hb e1 e2 _ y => ?_⟩⟩
  obtain ⟨rfl, hx⟩ := y
  exact ⟨S2, Gr.refl e2, dp_mono (over_mono (tup_mono e1)) _ _ (dps_at h2 hb hx)⟩
theorem w_listV {Ts : List Ty} (he : SE true te Γ C (tLV Ts)) : SW (iList K te) Γ C Ts (fun T => T) := fun F σ H S s R q => he F σ H S s _ fun v H1 S1 g k => by
  obtain ⟨a, xs, rfl, h1, h2⟩ := k
  refine ⟨a, rfl, ⟨xs, SqL.of (g.sub _ _ h1)⟩, q _ H1 S1 g ⟨_, _, Tys.len h2 ▸ walk_list (a := a) (xs := xs), fun H2 S2 e1 e2 _ => SqL.of ((e1.trans e2) _ _ h1), fun i b x H2 S2 H3 hb e1 e2 _ y => ?_⟩⟩
  obtain ⟨rfl, hx⟩ := y
  obtain ⟨w, e3, e4⟩ := Tys.get h2 hb
  rw [hx] at e3; cases e3
  exact ⟨S2, Gr.refl e2, b.mono e1 e4⟩
/-- what is no list of whole numbers or stands in no list: its kind -/
theorem e_isiJ {b : Bool} {n : String} (h : SE true te Γ C (tRg L d)) (hj : HasJ C L) (hd : (∃ l : List Int, l ≠ [] ∧ d = .list (l.map .int)) ∨ noL d = true) (hL : NoT L) (hk : kitB (tyN d) n = some b) : SE true (tCB (rIsi K) (tCons te (tCons (tC (.ty n)) tNil))) Γ C (tBo b) := fun F σ H S s Q q =>
  h F σ H S s _ fun v H1 S1 g k => by
  refine ⟨v, .ty n, _, _, b, rfl, .ty n, ?_, kit_ty hk, q _ H1 S1 g (.bl b)⟩
  rcases hd with ⟨l, hl, rfl⟩ | hd
  · obtain ⟨a, l', rfl, _, h1, _⟩ := jk_ints (hj H1 S1 (s.grow g).cl) k hl
    exact tyX_l (SqL.of h1)
  · exact tyX_d (dq_dp _ _ (dp_mono (tup_sub.trans g.sub) _ _ (dq_noL hL d v hd k)))
/-- some whole number -/
def SomeI (te : TE) (Γ : List Sl) (C : List Cell) : Prop := ∀ (F : Fr0) (σ : L2.St) (H S : Hp), Stt F Γ C σ H S → ∀ Q : VK, (∀ k H' S', Gr0 H S H' S' → Q (.int k) H') → te σ H Q
theorem someI {k : Int} (h : SE true te Γ C (tI k)) : SomeI te Γ C := fun F σ H S s Q q => h F σ H S s _ fun v H1 S1 g k => dp_int k ▸ q _ H1 S1 g
theorem ss_jset {l : List Int} (he : SomeI te Γ (cJk L :: C)) (hx : Γ[i]? = some (some (tRg L (.list (l.map .int))))) (hl : l ≠ []) (h : SS F u Γ (cJk L :: C) O) :
    SS F (tSeq (tAsg te (gSub (tVar i) (tC (.int 0)) rSetL)) u) Γ (cJk L :: C) O := fun σ H S s D o => he F σ H S s _ fun k H1 S1 g1 => by
  have s1 := s.grow g1
  obtain ⟨v, ev, kv⟩ := s1.sl i _ hx
  have hJ := s1.cl.head.1
  obtain ⟨a, l', rfl, hLa, ha, hl'⟩ := jk_ints hJ kv hl
  refine ⟨_, ev, a, l'.map .int, 0, 0, rfl, rfl, ha, ?_, ?_⟩
  · rw [List.length_map]
    cases l' with
    | nil => exact (hl' rfl).elim
    | cons x l' =>
      unfold ixN
      rw [if_pos (by decide), if_pos (by simp only [List.length_cons]; omega)]
      rfl
  · have e : (l'.map V.int).set 0 (.int k) = (l'.set 0 k).map V.int := List.map_set.symm
    rw [e]
    have nz : l'.set 0 k ≠ [] := by
      cases l' with
      | nil => exact (hl' rfl).elim
      | cons x l' => exact fun z => nomatch z
    refine h σ _ S1 (s1.swap (c' := cJk L) (fun q e => .inl e) (fun q x n e => ?_) (fun q e => ?_) (fun q ⟨x, e⟩ => ?_) (fun q x e => ?_) rfl) D (o.grow g1.s)
    · have nq : q ≠ a := fun z => n ⟨_, z ▸ hLa⟩
      rw [upd_ne nq]; exact e
    · by_cases z : q = a
      · subst z; rw [upd_same] at e; cases e
      · rw [upd_ne z] at e; exact e
    · by_cases z : q = a
      · subst z; exact ⟨_, upd_same, id⟩
      · rw [upd_ne z]
        exact (s1.cl.head.2 q ⟨x, e⟩).2
    · by_cases z : q = a
      · subst z
        rw [hLa] at e; cases e
        exact ⟨_, upd_same, .inr ⟨l, _, hl, nz, rfl, rfl⟩⟩
      · rw [upd_ne z]
        exact hJ q x e
/-- an item of such a list: some whole number -/
theorem e_ixJ0 {l : List Int} (hx : Γ[i]? = some (some (tRg L (.list (l.map .int))))) (hl : l ≠ []) (hj : HasJ C L) (hb : SE true tb Γ C (tI 1)) : SomeI (tOp (rI0 fun i j => .int (i + j)) (tOp (rIxL K) (tVar i) (tC (.int 0))) tb) Γ C := fun F σ H S s Q q => by
  obtain ⟨v, ev, kv⟩ := s.sl i _ hx
  obtain ⟨a, l', rfl, hLa, ha, hl'⟩ := jk_ints (hj H S s.cl) kv hl
  cases l' with
  | nil => exact (hl' rfl).elim
  | cons x l' =>
    refine ⟨_, ev, a, _, 0, .int x, rfl, rfl, SqL.of ha, atI_nat (j := 0) rfl, ?_⟩
    exact hb F σ H S s _ fun y H1 S1 g ky => by
      rw [dp_int ky]
      exact ⟨x, 1, rfl, rfl, q _ H1 S1 g⟩
/-- e.append(x), e a list of a changing region: that is let go -/
theorem ss_japp {T' : String} {T : Ty} (ho : SE true to Γ (cJk L :: C) (tRg L (.list ds))) (hn : NI ds) (hl : ds.length < 100000) (he : SE true te Γ (cJk L :: C) T) (h : SS F u Γ C O) (hT : T' = "list") :
    SS F (tSeq (tDrop (tBM K T' rAppend to (tCons te tNil))) u) Γ (cJk L :: C) O := fun σ H S s D o => by
  subst hT
  refine ho F σ H S s _ fun v H0 S0 g0 kv => ?_
  obtain ⟨a, xs, rfl, hL, h0, hk⟩ := jk_list (s.grow g0).cl.head.1 kv hn
  refine ⟨.inl ⟨rfl, _, SqL.of h0⟩, he F σ H0 S0 (s.grow g0) _ fun w H1 S1 g k => ?_⟩
  have s1 := s.grow (g0.trans g)
  obtain ⟨a', xs', e, hL', h1, _⟩ := jk_list s1.cl.head.1 ((tRg L (.list ds)).mono g.s kv) hn
  cases e
  rw [hL] at hL'; cases hL'
  refine ⟨a, xs, w, rfl, rfl, h1, by rw [dps_len hk]; exact Nat.lt_of_lt_of_le hl (by decide), ?_⟩
  refine h σ _ S1 (s1.swap (c' := ⟨fun q => ∃ o, L q = some o, fun _ _ => True, fun _ _ _ => trivial, true⟩) (fun q e => .inl e) (fun q x n e => ?_) (fun q e => ?_) (fun q ⟨x, e⟩ => ?_) trivial rfl).drop D (o.grow (g0.trans g).s)
  · have nq : q ≠ a := fun z => n ⟨_, z ▸ hL⟩
    rw [upd_ne nq]; exact e
  · by_cases z : q = a
    · subst z; rw [upd_same] at e; cases e
    · rw [upd_ne z] at e; exact e
  · by_cases z : q = a
    · subst z; exact ⟨_, upd_same, id⟩
    · rw [upd_ne z]
      exact (s1.cl.head.2 q ⟨x, e⟩).2
theorem e_lstV {Ts : List Ty} (h : SA true ta Γ C Ts) (hl : Ts.length ≤ 100000) : SE true (tLst ta) Γ C (tLV Ts) := fun F σ H S s Q q => h F σ H S s _ fun vs H1 S1 g k => by
  refine ⟨by rw [Tys.len k]; exact Nat.le_trans hl (by decide), fun p hp => ?_⟩
  have g2 := Gr.allocS (M := M0) g.sub (o := .lst vs) hp
  exact q _ _ _ (g.trans g2) ⟨p, vs, rfl, upd_same, Tys.mono g2.s k⟩
theorem tys_rg {S : Hp} : ∀ {ds : List PyData} {vs : List V}, DqAll (over L (tupOf S)) vs ds → Tys S (ds.map (tRg L)) vs
  | [], _, h => by cases h; trivial
  | d :: ds, _, h => by
    cases h with
    | cons h1 h2 => exact ⟨h1, tys_rg h2⟩
theorem e_catJ {Ts : List Ty} (ha : SE true te Γ C (tLV Ts)) (hb : SE true tb Γ C (tRg L (.list ds))) (hj : HasJ C L) (hn : NI ds) (hl : Ts.length + ds.length ≤ 100000) : SE true (tOp rCat te tb) Γ C (tLV (Ts ++ ds.map (tRg L))) := fun F σ H S s Q q =>
  ha F σ H S s _ fun x H1 S1 g1 k1 => hb F σ H1 S1 (s.grow g1) _ fun y H2 S2 g2 k2 => by
    have g := g1.trans g2
    obtain ⟨a, xs, rfl, h1, h2⟩ := (tLV Ts).mono g2.s k1
    obtain ⟨b, ys, rfl, _, h1', h2'⟩ := jk_list (hj H2 S2 (s.grow g).cl) k2 hn
    refine ⟨a, b, xs, ys, rfl, rfl, g.sub _ _ h1, h1', by rw [Tys.len h2, dps_len h2']; exact Nat.le_trans hl (by decide), fun p hp => ?_⟩
    have g3 := Gr.allocS (M := M0) g.sub (o := .lst (xs ++ ys)) hp
    exact q _ _ _ (g.trans g3) ⟨p, _, rfl, upd_same, Tys.mono g3.s (tys_app h2 (tys_rg h2'))⟩
end
end Sw
/-! the law's draws, lines as lists of whole numbers -/
namespace Sw
open PySem L2
/-- a list of whole numbers as data -/
abbrev dIs (ns : List Int) : PyData := .list (ns.map .int)
abbrev tIs (ns : List Int) : Ty := tD (dIs ns)
def mix (c k m : Int) : Int := (c % 2147483647 + 12345) * (48271 + 6 * k) % 1000000007 / 7 % m
theorem mix_lo {c k m : Int} (h : 0 < m) : 0 ≤ mix c k m := Int.emod_nonneg _ (by omega)
theorem mix_hi {c k m : Int} (h : 0 < m) : mix c k m < m := Int.emod_lt_of_pos _ h
def num4 : List Int := [1000000000, -1000000000, 999999999, -999999999]
def num (c k : Int) : Int :=
  if mix c k 9 = 0 then c % 2000000001 - 1000000000
  else if mix c k 9 = 1 then num4.getD (mix c (k + 1) 4).toNat 0
  else mix c (k + 2) 9 - 4
theorem num_bd (c k : Int) : -1000000000 ≤ num c k ∧ num c k ≤ 1000000000 := by
  unfold num
  split
  · omega
  · split
    · have h1 := mix_lo (c := c) (k := k + 1) (m := 4) (by decide)
      have h2 := mix_hi (c := c) (k := k + 1) (m := 4) (by decide)
      generalize mix c (k + 1) 4 = z at h1 h2
      have : z = 0 ∨ z = 1 ∨ z = 2 ∨ z = 3 := by omega
      rcases this with rfl | rfl | rfl | rfl <;> decide
    · have h1 := mix_lo (c := c) (k := k + 2) (m := 9) (by decide)
      have h2 := mix_hi (c := c) (k := k + 2) (m := 9) (by decide)
      omega
def cellAt (ns : List Int) (k : Int) : Int := ns.getD k.toNat 0
/-- the sum of products -/
def dot : List Int → List Int → Int
  | x :: xs, y :: ys => x * y + dot xs ys
  | _, _ => 0
def wl (line nums : List Int) : Int := line.headD 0 + dot line.tail nums
def Sm (xs : List Int) : Prop := ∀ x ∈ xs, -(2 ^ 64) < x ∧ x < 2 ^ 64
theorem Sm.tail {xs : List Int} (h : Sm xs) : Sm xs.tail := fun x hx => h x (List.mem_of_mem_tail hx)
theorem zip_map_int (xs ys : List Int) : (xs.map PyData.int).zip (ys.map PyData.int) = (xs.zip ys).map fun p => (PyData.int p.1, PyData.int p.2) := by
  rw [List.zip_map]
  rfl
theorem cutD_tail (xs : List PyData) : cutD xs (some 1) none = xs.tail := by
  unfold cutD
  rw [show HT.sIx xs.length 0 (some 1) = min 1 xs.length from HT.sIx_nat xs.length 0 1, HT.sIx_none]
  cases xs with
  | nil => rfl
  | cons x r =>
    rw [show min 1 (x :: r).length = 1 by rw [List.length_cons]; omega]
    show (List.take ((x :: r).length - 1) r) = r
    rw [List.length_cons, Nat.add_sub_cancel]
    exact List.take_length
def dotz (zs : List (Int × Int)) : Int := (zs.map fun p => p.1 * p.2).sum
theorem dot_zip : ∀ (xs ys : List Int), dotz (xs.zip ys) = dot xs ys
  | [], _ => rfl
  | _ :: _, [] => rfl
  | x :: xs, y :: ys => by
    show ((x * y) :: ((xs.zip ys).map fun p => p.1 * p.2)).sum = x * y + dot xs ys
    rw [List.sum_cons, ← dot_zip xs ys]
    rfl
theorem sum_snoc (xs : List Int) (x : Int) : (xs ++ [x]).sum = xs.sum + x := by simp
theorem dotz_take {zs : List (Int × Int)} {i : Nat} {p : Int × Int} (h : zs[i]? = some p) : dotz (zs.take (i + 1)) = dotz (zs.take i) + p.1 * p.2 := by
  unfold dotz
  rw [List.take_add_one, h, List.map_append]
  show (_ ++ [p.1 * p.2]).sum = _
  rw [sum_snoc]
theorem atI_0 {α : Type} {x : α} {xs : List α} : atI (x :: xs) 0 = some x := atI_nat (j := 0) rfl
theorem atI_map {α β : Type} (f : α → β) {xs : List α} {i : Int} {x : α} (h : atI xs i = some x) : atI (xs.map f) i = some (f x) := by
  unfold atI at h ⊢
  rw [List.length_map]
  cases hn : ixN xs.length i with
  | none => rw [hn] at h; cases h
  | some j =>
    rw [hn] at h
    show (xs.map f)[j]? = some (f x)
    rw [List.getElem?_map]
    have h : xs[j]? = some x := h
    rw [h]; rfl
theorem atI_of {α : Type} {xs : List α} {i : Int} {j : Nat} {x : α} (e : i = (j : Int)) (h : xs[j]? = some x) : atI xs i = some x := by
  subst e; exact atI_nat h
theorem atI_D {xs : List Int} {i : Int} (h0 : 0 ≤ i) (h1 : i < xs.length) : atI xs i = some (xs.getD i.toNat 0) := by
  have hl : i.toNat < xs.length := by omega
  refine atI_of (j := i.toNat) (by omega) ?_
  rw [List.getElem?_eq_getElem hl, List.getD_eq_getElem?_getD, List.getElem?_eq_getElem hl]
  rfl
theorem atI_Di {xs : List Int} {i : Int} (h0 : 0 ≤ i) (h1 : i < xs.length) : atI (xs.map PyData.int) i = some (.int (xs.getD i.toNat 0)) := atI_map PyData.int (atI_D h0 h1)
/-! equality of data -/
def okd (n : Nat) (d : PyData) : Prop := d.canLay0 = true ∧ d.depth ≤ n
theorem okd.shaped {n : Nat} {d : PyData} (h : okd n d) (hn : n ≤ 64 := by decide) : SeqAt.shaped d = true := by
  unfold SeqAt.shaped
  rw [h.1, decide_eq_true (Nat.le_trans h.2 hn)]
  rfl
theorem okd.mono {n k : Nat} {d : PyData} (h : okd n d) (hn : n ≤ k) : okd k d := ⟨h.1, Nat.le_trans h.2 hn⟩
theorem okd_all {n : Nat} : ∀ {ds : List PyData}, (∀ d ∈ ds, okd n d) → PyData.canLayAll0 ds = true ∧ PyData.depthAll ds ≤ n
  | [], _ => ⟨by unfold PyData.canLayAll0; rfl, by unfold PyData.depthAll; exact Nat.zero_le _⟩
  | d :: ds, h => by
    obtain ⟨h1, h2⟩ := okd_all (ds := ds) fun x hx => h x (List.mem_cons_of_mem _ hx)
    obtain ⟨h3, h4⟩ := h d List.mem_cons_self
    refine ⟨?_, ?_⟩
    · unfold PyData.canLayAll0; rw [h3, h1]; rfl
    · unfold PyData.depthAll; exact Nat.max_le.mpr ⟨h4, h2⟩
theorem okd_list {n : Nat} {ds : List PyData} (h : ∀ d ∈ ds, okd n d) : okd (n + 1) (.list ds) := by
  obtain ⟨h1, h2⟩ := okd_all h
  exact ⟨by unfold PyData.canLay0; exact h1, by unfold PyData.depth; omega⟩
theorem okd_tup {n : Nat} {ds : List PyData} (h : ∀ d ∈ ds, okd n d) : okd (n + 1) (.tuple ds) := by
  obtain ⟨h1, h2⟩ := okd_all h
  exact ⟨by unfold PyData.canLay0; exact h1, by unfold PyData.depth; omega⟩
theorem okd_int (i : Int) : okd 0 (.int i) := ⟨by unfold PyData.canLay0; rfl, by unfold PyData.depth; exact Nat.le_refl _⟩
theorem okd_non : okd 0 .none := ⟨by unfold PyData.canLay0; rfl, by unfold PyData.depth; exact Nat.le_refl _⟩
theorem okd_ints (ns : List Int) : okd 1 (dIs ns) := okd_list fun d hd => by
  obtain ⟨i, _, rfl⟩ := List.mem_map.mp hd
  exact okd_int i
theorem eqv_same {n : Nat} {d : PyData} (h : okd n d) : PyData.eqv d d = true := SeqAt.eqv_refl d h.1
theorem eqvAll_ints : ∀ (xs ys : List Int), PyData.eqvAll (xs.map .int) (ys.map .int) = decide (xs = ys)
  | [], [] => by simp [PyData.eqvAll]
  | [], _ :: _ => by simp [PyData.eqvAll]
  | _ :: _, [] => by simp [PyData.eqvAll]
  | x :: xs, y :: ys => by
    have ih := eqvAll_ints xs ys
    simp only [List.map_cons, PyData.eqvAll, PyData.eqv, ih]
    by_cases c : x = y
    · subst c; simp
    · simp [c]
theorem eqv_ints (xs ys : List Int) : PyData.eqv (dIs xs) (dIs ys) = decide (xs = ys) := by
  show PyData.eqv (.list _) (.list _) = _
  unfold PyData.eqv
  exact eqvAll_ints xs ys

def isI : PyData → Bool
  | .int _ => true
  | _ => false
/-! ### sums of lines -/
abbrev dLs (ls : List (List Int)) : PyData := .list (ls.map dIs)
abbrev tLl (ls : List (List Int)) : Ty := tD (dLs ls)
theorem okd_lls (ls : List (List Int)) : okd 2 (dLs ls) := okd_list fun d hd => by
  obtain ⟨l, _, rfl⟩ := List.mem_map.mp hd
  exact okd_ints l
def zipAdd (t l : List Int) (w : Int) : List Int := (t.zip l).map fun p => p.1 + w * p.2
def zeros : List Int := List.replicate 9 0
def summedL (lines : List (List Int)) (ws : List Int) : List Int := (lines.zip ws).foldl (fun t p => zipAdd t p.1 p.2) zeros
theorem foldl_take {α β : Type} (f : α → β → α) (a : α) {xs : List β} {i : Nat} {x : β} (h : xs[i]? = some x) : (xs.take (i + 1)).foldl f a = f ((xs.take i).foldl f a) x := by
  rw [List.take_add_one, h, List.foldl_append]
  rfl
theorem zip_map_line (ls : List (List Int)) (ws : List Int) : (ls.map dIs).zip (ws.map PyData.int) = (ls.zip ws).map fun p => (dIs p.1, PyData.int p.2) := by
  rw [List.zip_map]
  rfl
theorem zipAdd_len {t l : List Int} {w : Int} (ht : t.length = 9) (hl : l.length = 9) : (zipAdd t l w).length = 9 := by
  unfold zipAdd
  rw [List.length_map, List.length_zip, ht, hl]
  rfl
theorem foldl_len {zs : List (List Int × Int)} : ∀ {t : List Int}, t.length = 9 → (∀ p ∈ zs, p.1.length = 9) → (zs.foldl (fun t p => zipAdd t p.1 p.2) t).length = 9 := by
  induction zs with
  | nil => intro t h _; exact h
  | cons p zs ih =>
    intro t h hz
    exact ih (zipAdd_len h (hz p List.mem_cons_self)) fun q hq => hz q (List.mem_cons_of_mem _ hq)
theorem fold_le : ∀ {zs : List (List Int × Int)} {t : List Int}, (zs.foldl (fun t p => zipAdd t p.1 p.2) t).length ≤ t.length
  | [], _ => Nat.le_refl _
  | p :: zs, t => by
    refine Nat.le_trans (fold_le (zs := zs) (t := zipAdd t p.1 p.2)) ?_
    unfold zipAdd
    rw [List.length_map, List.length_zip]
    exact Nat.min_le_left _ _
theorem summed_len {lines : List (List Int)} {ws : List Int} (h : ∀ l ∈ lines, l.length = 9) : (summedL lines ws).length = 9 :=
  foldl_len (by simp [zeros]) fun p hp => h _ (List.of_mem_zip (a := p.1) (b := p.2) hp).1
def colsum (zs : List (List Int × Int)) (k : Nat) : Int := (zs.map fun p => p.1.getD k 0 * p.2).sum
theorem getD_of {α : Type} {xs : List α} {k : Nat} {x d : α} (h : xs[k]? = some x) : xs.getD k d = x := by rw [List.getD_eq_getElem?_getD, h]; rfl
theorem get_of_getD {xs : List Int} {k : Nat} (h : k < xs.length) : xs[k]? = some (xs.getD k 0) := by rw [List.getD_eq_getElem?_getD, List.getElem?_eq_getElem h]; rfl
theorem zipAdd_get {t l : List Int} {w : Int} {k : Nat} (h1 : k < t.length) (h2 : k < l.length) : (zipAdd t l w).getD k 0 = t.getD k 0 + w * l.getD k 0 := by
  refine getD_of ?_
  unfold zipAdd
  have e : (t.zip l)[k]? = some (t.getD k 0, l.getD k 0) := List.getElem?_zip_eq_some.mpr ⟨get_of_getD h1, get_of_getD h2⟩
  rw [List.getElem?_map, e]
  rfl
theorem fold_get {k : Nat} (hk : k < 9) : ∀ {zs : List (List Int × Int)} {t : List Int}, t.length = 9 → (∀ p ∈ zs, p.1.length = 9) → (zs.foldl (fun t p => zipAdd t p.1 p.2) t).getD k 0 = t.getD k 0 + colsum zs k
  | [], t, _, _ => by simp [colsum]
  | p :: zs, t, ht, hz => by
    have hp := hz p List.mem_cons_self
    have ih := fold_get hk (zs := zs) (t := zipAdd t p.1 p.2) (zipAdd_len ht hp) fun q hq => hz q (List.mem_cons_of_mem _ hq)
    rw [List.foldl_cons, ih, zipAdd_get (by omega) (by omega)]
    unfold colsum
    rw [List.map_cons, List.sum_cons, Int.mul_comm p.2]
    omega
theorem summed_get {lines : List (List Int)} {ws : List Int} {k : Nat} (hk : k < 9) (h : ∀ l ∈ lines, l.length = 9) : (summedL lines ws).getD k 0 = colsum (lines.zip ws) k := by
  unfold summedL
  rw [fold_get hk (by simp [zeros]) fun p hp => h _ (List.of_mem_zip (a := p.1) (b := p.2) hp).1]
  have : zeros.getD k 0 = 0 := by
    unfold zeros
    rw [List.getD_eq_getElem?_getD, List.getElem?_replicate]
    split <;> rfl
  rw [this]; omega
theorem line_ext {xs ys : List Int} (h1 : xs.length = 9) (h2 : ys.length = 9) (h : ∀ k : Nat, k < 9 → xs.getD k 0 = ys.getD k 0) : xs = ys := by
  refine List.ext_getElem? fun k => ?_
  by_cases hk : k < 9
  · rw [get_of_getD (by omega), get_of_getD (by omega), h k hk]
  · rw [List.getElem?_eq_none (by omega), List.getElem?_eq_none (by omega)]
theorem range_map_get {f : Nat → Int} {k n : Nat} (h : k < n) : ((List.range n).map f).getD k 0 = f k := getD_of (by rw [List.getElem?_map, List.getElem?_range h]; rfl)
theorem summed_cols {lines : List (List Int)} {ws : List Int} (h : ∀ l ∈ lines, l.length = 9) : (List.range 9).map (colsum (lines.zip ws)) = summedL lines ws :=
  line_ext (by simp) (summed_len h) fun k hk => by rw [range_map_get hk, summed_get hk h]
theorem colsum_succ {zs : List (List Int × Int)} {j k : Nat} {p : List Int × Int} (h : zs[j]? = some p) : colsum (zs.take (j + 1)) k = colsum (zs.take j) k + p.1.getD k 0 * p.2 := by
  unfold colsum
  rw [List.take_add_one, h, List.map_append]
  show (_ ++ [p.1.getD k 0 * p.2]).sum = _
  rw [sum_snoc]
theorem dot_zipAdd {w : Int} : ∀ {t l v : List Int}, t.length = l.length → dot (zipAdd t l w) v = dot t v + w * dot l v
  | [], [], _, _ => by simp [zipAdd, dot]
  | [], _ :: _, _, h => by simp at h
  | _ :: _, [], _, h => by simp at h
  | a :: t, b :: l, [], _ => by simp [zipAdd, dot]
  | a :: t, b :: l, v :: vs, h => by
    have ih := dot_zipAdd (w := w) (t := t) (l := l) (v := vs) (by simpa using h)
    show (a + w * b) * v + dot (zipAdd t l w) vs = a * v + dot t vs + w * (b * v + dot l vs)
    rw [ih, Int.add_mul, Int.mul_add, Int.mul_assoc]
    omega
def wsum (zs : List (List Int × Int)) (v : List Int) : Int := (zs.map fun p => p.2 * dot p.1 v).sum
theorem dot_fold {v : List Int} : ∀ {zs : List (List Int × Int)} {t : List Int}, t.length = 9 → (∀ p ∈ zs, p.1.length = 9) → dot (zs.foldl (fun t p => zipAdd t p.1 p.2) t) v = dot t v + wsum zs v
  | [], t, _, _ => by simp [wsum]
  | p :: zs, t, ht, hz => by
    have hp := hz p List.mem_cons_self
    have ih := dot_fold (v := v) (zs := zs) (t := zipAdd t p.1 p.2) (zipAdd_len ht hp) fun q hq => hz q (List.mem_cons_of_mem _ hq)
    rw [List.foldl_cons, ih, dot_zipAdd (by omega)]
    unfold wsum
    rw [List.map_cons, List.sum_cons]
    omega
theorem dot_zeros (n : Nat) : ∀ v : List Int, dot (List.replicate n 0) v = 0 := by
  induction n with
  | zero => intro v; rfl
  | succ n ih =>
    intro v
    cases v with
    | nil => rfl
    | cons x v => rw [List.replicate_succ]; show 0 * x + dot (List.replicate n 0) v = 0; rw [ih v]; omega
theorem dot_summed {lines : List (List Int)} {ws v : List Int} (h : ∀ l ∈ lines, l.length = 9) : dot (summedL lines ws) v = wsum (lines.zip ws) v := by
  unfold summedL
  rw [dot_fold (by simp [zeros]) fun p hp => h _ (List.of_mem_zip (a := p.1) (b := p.2) hp).1]
  unfold zeros
  rw [dot_zeros]
  omega
theorem wl_dot {line nums : List Int} (h : line ≠ []) : wl line nums = dot line (1 :: nums) := by
  cases line with
  | nil => exact absurd rfl h
  | cons a r => show a + dot r nums = a * 1 + dot r nums; omega
def steadyL (n : Int) : List Int := n :: List.replicate 8 0
theorem steady_len (n : Int) : (steadyL n).length = 9 := by simp [steadyL]
def turnedL (line : List Int) (eight : List (List Int)) : List Int := summedL (steadyL (line.headD 0) :: eight) (1 :: line.tail)
theorem turned_len {line : List Int} {eight : List (List Int)} (h : ∀ l ∈ eight, l.length = 9) : (turnedL line eight).length = 9 :=
  summed_len fun l hl => by
    rcases List.mem_cons.mp hl with e | hl
    · rw [e]; exact steady_len _
    · exact h l hl
theorem wsum_zip {v : List Int} : ∀ {eight : List (List Int)} {tl : List Int}, wsum (eight.zip tl) v = dot tl (eight.map fun l => dot l v)
  | [], tl => by cases tl <;> rfl
  | _ :: _, [] => rfl
  | l :: eight, w :: tl => by
    have ih := wsum_zip (v := v) (eight := eight) (tl := tl)
    show ((w * dot l v) :: ((eight.zip tl).map fun p => p.2 * dot p.1 v)).sum = w * dot l v + dot tl (eight.map fun l => dot l v)
    rw [List.sum_cons, ← ih]
    rfl
/-- the worth of a turned line -/
theorem wl_turned {line nums : List Int} {eight : List (List Int)} (h : ∀ l ∈ eight, l.length = 9) : wl (turnedL line eight) nums = wl line (eight.map fun l => wl l nums) := by
  have hl : ∀ l ∈ steadyL (line.headD 0) :: eight, l.length = 9 := fun l hl => by
    rcases List.mem_cons.mp hl with e | hl
    · rw [e]; exact steady_len _
    · exact h l hl
  have hne : turnedL line eight ≠ [] := fun e => by
    have := turned_len (line := line) h
    rw [e] at this; cases this
  rw [wl_dot hne]
  unfold turnedL
  rw [dot_summed hl, List.zip_cons_cons]
  show (1 * dot (steadyL (line.headD 0)) (1 :: nums)) + wsum (eight.zip line.tail) (1 :: nums) = line.headD 0 + dot line.tail (eight.map fun l => wl l nums)
  rw [wsum_zip]
  have e1 : dot (steadyL (line.headD 0)) (1 :: nums) = line.headD 0 := by
    show line.headD 0 * 1 + dot (List.replicate 8 0) nums = _
    rw [dot_zeros]; omega
  have e2 : (eight.map fun l => dot l (1 :: nums)) = eight.map fun l => wl l nums := List.map_congr_left fun l hl => (wl_dot fun e => by have := h l hl; rw [e] at this; cases this).symm
  rw [e1, e2]
  omega
theorem turned_get {line : List Int} {eight : List (List Int)} {k : Nat} (hk : k < 9) (h : ∀ l ∈ eight, l.length = 9) : (turnedL line eight).getD k 0 = (steadyL (line.headD 0)).getD k 0 + colsum (eight.zip line.tail) k := by
  unfold turnedL
  rw [summed_get hk fun l hl => by
    rcases List.mem_cons.mp hl with e | hl
    · rw [e]; exact steady_len _
    · exact h l hl]
  show ((steadyL (line.headD 0)).getD k 0 * 1 :: ((eight.zip line.tail).map fun p => p.1.getD k 0 * p.2)).sum = _
  rw [List.sum_cons]
  unfold colsum
  omega
def bareL (i : Int) : List Int := (List.range 9).map fun k : Nat => if (k : Int) = i + 1 then 1 else 0
theorem bare_eq : ∀ j : Nat, j < 8 → (bareL (j : Int)).map PyData.int = List.replicate ((j : Int) + 1).toNat (.int 0) ++ [.int 1] ++ List.replicate (7 - (j : Int)).toNat (.int 0)
  | 0, _ => rfl | 1, _ => rfl | 2, _ => rfl | 3, _ => rfl | 4, _ => rfl | 5, _ => rfl | 6, _ => rfl | 7, _ => rfl
  | j + 8, h => absurd h (by omega)
theorem bare_len (i : Int) : (bareL i).length = 9 := by simp [bareL]
def isLine : PyData → Bool
  | .list ds => decide (ds.length = 9) && (ds.map isI).all id
  | _ => false
theorem isLine_ints {l : List Int} (h : l.length = 9) : isLine (dIs l) = true := by
  show (decide ((l.map PyData.int).length = 9) && ((l.map PyData.int).map isI).all id) = true
  rw [List.length_map, h]
  simp [isI]

/-! ### promises of small defs, and their calls -/
section
abbrev sp_worth : Sp := spP (fun a : List Int × List Int => [tIs a.1, tIs a.2]) (fun a => a.1 ≠ [] ∧ (Sm a.1.tail ∨ Sm a.2)) (fun a => tI (wl a.1 a.2))
abbrev sp_holds : Sp := spP (fun a : List Int × List Int => [tIs a.1, tIs a.2]) (fun a => a.1 ≠ [] ∧ (Sm a.1.tail ∨ Sm a.2)) (fun a => tBo (decide (0 ≤ wl a.1 a.2)))
abbrev sp_law_cell_at (K : PySem.W.Frag) : Sp := spP (fun a : List Int × Int => [tScr K a.1, tI a.2]) (fun a => 0 ≤ a.2) (fun a => tI (cellAt a.1 a.2))
abbrev sp_law_mix : Sp := spP (fun a : Int × Int × Int => [tI a.1, tI a.2.1, tI a.2.2]) (fun a => 0 < a.2.2) (fun a => tI (mix a.1 a.2.1 a.2.2))
abbrev sp_law_number : Sp := spP (fun a : Int × Int => [tI a.1, tI a.2]) (fun _ => True) (fun a => tI (num a.1 a.2))
abbrev sp_law_whole : Sp := spP (fun d : PyData => [tD d]) (fun _ => True) (fun d => tBo (isI d))
abbrev sp_bare : Sp := spO (fun i : Int => [tI i]) (fun _ => True) (fun i => (bareL i).map .int)
abbrev sp_summed : Sp := spO (fun a : List (List Int) × List Int => [tLl a.1, tIs a.2]) (fun a => Sm a.2 ∨ ∀ l ∈ a.1, Sm l) (fun a => (summedL a.1 a.2).map .int)
abbrev sp_steady : Sp := spO (fun n : Int => [tI n]) (fun _ => True) (fun n => (steadyL n).map .int)
abbrev sp_turned : Sp := spO (fun a : List Int × List (List Int) => [tIs a.1, tLl a.2]) (fun a => a.1.length = 9 ∧ Sm a.1.tail ∧ a.2.length ≤ 1000) (fun a => (turnedL a.1 a.2).map .int)
abbrev sp_law_is_line : Sp := spP (fun d : PyData => [tD d]) (fun _ => True) (fun d => tBo (isLine d))
abbrev sp_law_worth : Sp := spP (fun a : List Int × List Int => [tIs a.1, tIs a.2]) (fun a => a.1.length = 9 ∧ a.2.length = 8 ∧ (Sm a.1.tail ∨ Sm a.2)) (fun a => tI (wl a.1 a.2))
end
section
variable {m : Bool} {Γ : List Sl} {C : List Cell} {E : XK} {t1 t2 t3 t4 : TE} {line nums ns : List Int} {c k n : Int} {d : PyData}
theorem E_worth (h1 : SE true t1 Γ C (tIs line)) (h2 : SE true t2 Γ C (tIs nums)) (h : line ≠ [] ∧ (Sm line.tail ∨ Sm nums)) : SE true (tCall sp_worth [] E (tCons t1 (tCons t2 tNil))) Γ C (tI (wl line nums)) := e_call (line, nums) (a_cons h1 (a_cons h2 a_nil)) rfl h
theorem V_worth (h1 : SE false t1 Γ C (tIs line)) (h2 : SE false t2 Γ C (tIs nums)) (h : line ≠ [] ∧ (Sm line.tail ∨ Sm nums)) : SE m (tCall sp_worth [] E (tCons t1 (tCons t2 tNil))) Γ C (tI (wl line nums)) := e_callA (line, nums) (a_cons h1 (a_cons h2 a_nil)) rfl h atom_int
theorem E_holds (h1 : SE true t1 Γ C (tIs line)) (h2 : SE true t2 Γ C (tIs nums)) (h : line ≠ [] ∧ (Sm line.tail ∨ Sm nums)) : SE true (tCall sp_holds [] E (tCons t1 (tCons t2 tNil))) Γ C (tBo (decide (0 ≤ wl line nums))) := e_call (line, nums) (a_cons h1 (a_cons h2 a_nil)) rfl h
theorem E_law_cell_at {K : PySem.W.Frag} (h1 : SE true t1 Γ C (tScr K ns)) (h2 : SE true t2 Γ C (tI k)) (h : 0 ≤ k) : SE true (tCall (sp_law_cell_at K) [] E (tCons t1 (tCons t2 tNil))) Γ C (tI (cellAt ns k)) := e_call (ns, k) (a_cons h1 (a_cons h2 a_nil)) rfl h
theorem E_law_mix (h1 : SE true t1 Γ C (tI c)) (h2 : SE true t2 Γ C (tI k)) (h3 : SE true t3 Γ C (tI n)) (h : 0 < n) : SE true (tCall sp_law_mix [] E (tCons t1 (tCons t2 (tCons t3 tNil)))) Γ C (tI (mix c k n)) := e_call (c, k, n) (a_cons h1 (a_cons h2 (a_cons h3 a_nil))) rfl h
theorem E_law_number (h1 : SE true t1 Γ C (tI c)) (h2 : SE true t2 Γ C (tI k)) (_ : True) : SE true (tCall sp_law_number [] E (tCons t1 (tCons t2 tNil))) Γ C (tI (num c k)) := e_call (c, k) (a_cons h1 (a_cons h2 a_nil)) rfl trivial
theorem E_law_whole (h1 : SE true t1 Γ C (tD d)) (_ : True) : SE true (tCall sp_law_whole [] E (tCons t1 tNil)) Γ C (tBo (isI d)) := e_call d (a_cons h1 a_nil) rfl trivial
theorem O_bare (h1 : SE true t1 Γ C (tI c)) : SO (tCall sp_bare [] E (tCons t1 tNil)) Γ C ((bareL c).map .int) := o_call c (a_cons h1 a_nil) rfl trivial
theorem O_summed {lines : List (List Int)} {ws : List Int} (h1 : SE true t1 Γ C (tLl lines)) (h2 : SE true t2 Γ C (tIs ws)) (h : Sm ws ∨ ∀ l ∈ lines, Sm l) : SO (tCall sp_summed [] E (tCons t1 (tCons t2 tNil))) Γ C ((summedL lines ws).map .int) := o_call (lines, ws) (a_cons h1 (a_cons h2 a_nil)) rfl h
theorem O_steady (h1 : SE true t1 Γ C (tI c)) : SO (tCall sp_steady [] E (tCons t1 tNil)) Γ C ((steadyL c).map .int) := o_call c (a_cons h1 a_nil) rfl trivial
theorem O_turned {lines : List (List Int)} (h1 : SE true t1 Γ C (tIs line)) (h2 : SE true t2 Γ C (tLl lines)) (h : line.length = 9 ∧ Sm line.tail ∧ lines.length ≤ 1000) : SO (tCall sp_turned [] E (tCons t1 (tCons t2 tNil))) Γ C ((turnedL line lines).map .int) := o_call (line, lines) (a_cons h1 (a_cons h2 a_nil)) rfl h
theorem E_law_is_line (h1 : SE true t1 Γ C (tD d)) (_ : True) : SE true (tCall sp_law_is_line [] E (tCons t1 tNil)) Γ C (tBo (isLine d)) := e_call d (a_cons h1 a_nil) rfl trivial
theorem V_law_is_line (h1 : SE false t1 Γ C (tD d)) : SE m (tCall sp_law_is_line [] E (tCons t1 tNil)) Γ C (tBo (isLine d)) := e_callA d (a_cons h1 a_nil) rfl trivial atom_bl
theorem E_law_worth (h1 : SE true t1 Γ C (tIs line)) (h2 : SE true t2 Γ C (tIs nums)) (h : line.length = 9 ∧ nums.length = 8 ∧ (Sm line.tail ∨ Sm nums)) : SE true (tCall sp_law_worth [] E (tCons t1 (tCons t2 tNil))) Γ C (tI (wl line nums)) := e_call (line, nums) (a_cons h1 (a_cons h2 a_nil)) rfl h
theorem V_law_worth (h1 : SE false t1 Γ C (tIs line)) (h2 : SE false t2 Γ C (tIs nums)) (h : line.length = 9 ∧ nums.length = 8 ∧ (Sm line.tail ∨ Sm nums)) : SE m (tCall sp_law_worth [] E (tCons t1 (tCons t2 tNil))) Γ C (tI (wl line nums)) := e_callA (line, nums) (a_cons h1 (a_cons h2 a_nil)) rfl h atom_int
end
end Sw
/-! duties and rows -/
namespace Sw
open PySem L2
theorem ixN_of {n : Nat} {i : Int} (h0 : 0 ≤ i) (h1 : i < n) : ixN n i = some i.toNat := by
  unfold ixN
  rw [if_pos h0, if_pos h1]
theorem getD_head (xs : List Int) : xs.getD (Int.toNat 0) 0 = xs.headD 0 := by cases xs <;> rfl
theorem cutD_take (xs : List PyData) (k : Nat) : cutD xs none (some (k : Int)) = xs.take k := by
  unfold cutD
  rw [HT.sIx_none, HT.sIx_nat, List.drop_zero, Nat.sub_zero, ← List.take_take, List.take_length]
/-- rest, by a law's own hand -/
def restL (g : List Int) (ks : List (List Int)) (wh : Int) (ws : List Int) : List Int := (ks.zip ws).foldl (fun t p => zipAdd t p.1 (-p.2)) (g.map fun x => wh * x)
theorem zipAdd_zeros {g : List Int} (wh : Int) (h : g.length = 9) : zipAdd zeros g wh = g.map fun x => wh * x := by
  refine List.ext_getElem? fun k => ?_
  by_cases hk : k < 9
  · have e : (zeros.zip g)[k]? = some (0, g.getD k 0) := List.getElem?_zip_eq_some.mpr ⟨by
      unfold zeros
      rw [List.getElem?_replicate, if_pos hk], get_of_getD (by omega)⟩
    unfold zipAdd
    rw [List.getElem?_map, e, List.getElem?_map, get_of_getD (by omega)]
    show some (0 + wh * g.getD k 0) = some (wh * g.getD k 0)
    rw [Int.zero_add]
  · rw [List.getElem?_eq_none (by rw [zipAdd_len (by simp [zeros]) h]; omega), List.getElem?_eq_none (by rw [List.length_map]; omega)]
theorem summed_rest {g : List Int} {ks : List (List Int)} {wh : Int} {ws : List Int} (h : g.length = 9) : summedL (g :: ks) (wh :: ws.map fun w => -w) = restL g ks wh ws := by
  unfold summedL restL
  rw [List.zip_cons_cons, List.foldl_cons, zipAdd_zeros wh h, List.zip_map_right, List.foldl_map]
  rfl
theorem rest_len {g : List Int} {ks : List (List Int)} {wh : Int} {ws : List Int} (h : g.length = 9) (hk : ∀ k ∈ ks, k.length = 9) : (restL g ks wh ws).length = 9 := by
  rw [← summed_rest h]
  refine summed_len fun l hl => ?_
  rcases List.mem_cons.mp hl with e | hl
  · rw [e]; exact h
  · exact hk l hl
/-- a row that is out of form -/
def badRow (ks : List (List Int)) (wh : Int) (ws : List Int) : Bool := decide (wh < 1) || (!decide ((ws.length : Int) = (ks.length : Int)) || (ws.map fun w => decide (w < 0)).any id)
def goodRest (r : List Int) (wh : Int) : Bool := (r.tail.map fun f => decide (f = 0)).all id && decide (-wh < r.headD 0)
def showsB (g : List Int) (ks : List (List Int)) (wh : Int) (ws : List Int) : Bool := if badRow ks wh ws = true then false else goodRest (restL g ks wh ws) wh
theorem all_zero : ∀ (n : Nat) {xs : List Int}, xs.length = n → (xs.map fun f => decide (f = 0)).all id = decide (xs = List.replicate n 0)
  | 0, [], _ => by simp
  | n + 1, x :: xs, h => by
    have ih := all_zero n (xs := xs) (by simpa using h)
    rw [List.map_cons, List.all_cons, ih, List.replicate_succ]
    by_cases c : x = 0
    · subst c; simp
    · simp [c]
  | 0, _ :: _, h => by simp at h
  | _ + 1, [], h => by simp at h
abbrev dDuty (g : List Int) (ks : List (List Int)) : PyData := .tuple [dIs g, dLs ks]
abbrev dRow (wh : Int) (ws : List Int) : PyData := .tuple [.int wh, dIs ws]
theorem okd_duty (g : List Int) (ks : List (List Int)) : okd 3 (dDuty g ks) := okd_tup fun d hd => by
  rcases List.mem_cons.mp hd with e | hd
  · subst e; exact (okd_ints g).mono (by decide)
  · rw [List.mem_singleton.mp hd]; exact okd_lls ks
theorem okd_row (wh : Int) (ws : List Int) : okd 2 (dRow wh ws) := okd_tup fun d hd => by
  rcases List.mem_cons.mp hd with e | hd
  · subst e; exact (okd_int wh).mono (by decide)
  · rw [List.mem_singleton.mp hd]; exact okd_ints ws
structure DutyOk (g : List Int) (ks : List (List Int)) : Prop where
  g9 : g.length = 9
  k9 : ∀ k ∈ ks, k.length = 9
  few : ks.length ≤ 1000
abbrev sp_shows : Sp := spP (fun a : (List Int × List (List Int)) × (Int × List Int) => [tD (dDuty a.1.1 a.1.2), tD (dRow a.2.1 a.2.2)]) (fun a => DutyOk a.1.1 a.1.2 ∧ Sm (a.2.1 :: a.2.2) ∧ a.2.2.length ≤ 1000) (fun a => tBo (showsB a.1.1 a.1.2 a.2.1 a.2.2))
/-- a line with noughts at some places -/
def lby (c : Int) (zero : List Int) (i : Nat) : List Int := (List.range 9).map fun j : Nat => if 1 ≤ j ∧ j ≤ i ∧ ((j : Int) - 1 ∈ zero ∨ mix c (60 + ((j : Int) - 1)) 3 = 0) then 0 else num c (5 * (j : Int))
abbrev lineBy (c : Int) (zero : List Int) : List Int := lby c zero 8
theorem lby_len (c : Int) (zero : List Int) (i : Nat) : (lby c zero i).length = 9 := by simp [lby]
theorem lby_get {c : Int} {zero : List Int} {i j : Nat} (h : j < 9) : (lby c zero i)[j]? = some (if 1 ≤ j ∧ j ≤ i ∧ ((j : Int) - 1 ∈ zero ∨ mix c (60 + ((j : Int) - 1)) 3 = 0) then 0 else num c (5 * (j : Int))) := by
  unfold lby
  rw [List.getElem?_map, List.getElem?_range h]
  rfl
theorem lby_bd {c : Int} {zero : List Int} {i : Nat} : ∀ x ∈ lby c zero i, -1000000000 ≤ x ∧ x ≤ 1000000000 := fun x hx => by
  unfold lby at hx
  obtain ⟨j, _, rfl⟩ := List.mem_map.mp hx
  have := num_bd c (5 * (j : Int))
  split <;> omega
theorem lby_set {c : Int} {zero : List Int} {i : Nat} (hi : i < 8) (h : (i : Int) ∈ zero ∨ mix c (60 + (i : Int)) 3 = 0) : (lby c zero i).set (i + 1) 0 = lby c zero (i + 1) := by
  refine List.ext_getElem? fun j => ?_
  by_cases hj : j < 9
  · by_cases e : i + 1 = j
    · subst e
      rw [List.getElem?_set_self (by rw [lby_len]; omega), lby_get hj, if_pos ⟨by omega, by omega, by rw [show ((i + 1 : Nat) : Int) - 1 = (i : Int) by omega]; exact h⟩]
    · rw [List.getElem?_set_ne e, lby_get hj, lby_get hj]
      by_cases c1 : 1 ≤ j ∧ j ≤ i ∧ ((j : Int) - 1 ∈ zero ∨ mix c (60 + ((j : Int) - 1)) 3 = 0)
      · rw [if_pos c1, if_pos ⟨c1.1, by omega, c1.2.2⟩]
      · rw [if_neg c1, if_neg fun q => c1 ⟨q.1, by omega, q.2.2⟩]
  · rw [List.getElem?_eq_none (by rw [List.length_set, lby_len]; omega), List.getElem?_eq_none (by rw [lby_len]; omega)]
theorem lby_keep {c : Int} {zero : List Int} {i : Nat} (hi : i < 8) (h : ¬ ((i : Int) ∈ zero ∨ mix c (60 + (i : Int)) 3 = 0)) : lby c zero i = lby c zero (i + 1) := by
  refine List.ext_getElem? fun j => ?_
  by_cases hj : j < 9
  · rw [lby_get hj, lby_get hj]
    by_cases c1 : 1 ≤ j ∧ j ≤ i ∧ ((j : Int) - 1 ∈ zero ∨ mix c (60 + ((j : Int) - 1)) 3 = 0)
    · rw [if_pos c1, if_pos ⟨c1.1, by omega, c1.2.2⟩]
    · rw [if_neg c1, if_neg fun q => ?_]
      by_cases e : j = i + 1
      · subst e
        exact h (by have := q.2.2; rwa [show ((i + 1 : Nat) : Int) - 1 = (i : Int) by omega] at this)
      · exact c1 ⟨q.1, by omega, q.2.2⟩
  · rw [List.getElem?_eq_none (by rw [lby_len]; omega), List.getElem?_eq_none (by rw [lby_len]; omega)]
theorem lby_0 (c : Int) (zero : List Int) : (List.range 9).map (fun k : Nat => num c (5 * (k : Int))) = lby c zero 0 := by
  unfold lby
  refine List.map_congr_left fun j _ => ?_
  rw [if_neg fun q => by omega]
abbrev sp_law_line_by : Sp := spO (fun a : Int × List Int => [tI a.1, tIs a.2]) (fun _ => True) (fun a => (lineBy a.1 a.2).map .int)
abbrev sp_law_rest : Sp := spO (fun a : (List Int × List (List Int)) × (Int × List Int) => [tIs a.1.1, tLl a.1.2, tI a.2.1, tIs a.2.2]) (fun a => Sm (a.2.1 :: a.2.2) ∧ a.1.1.length ≤ 1000) (fun a => (restL a.1.1 a.1.2 a.2.1 a.2.2).map .int)
section
variable {m : Bool} {Γ : List Sl} {C : List Cell} {E : XK} {t1 t2 t3 t4 : TE} {g ws zero : List Int} {ks : List (List Int)} {c wh : Int}
theorem E_shows (h1 : SE true t1 Γ C (tD (dDuty g ks))) (h2 : SE true t2 Γ C (tD (dRow wh ws))) (h : DutyOk g ks ∧ Sm (wh :: ws) ∧ ws.length ≤ 1000) : SE true (tCall sp_shows [] E (tCons t1 (tCons t2 tNil))) Γ C (tBo (showsB g ks wh ws)) := e_call ((g, ks), (wh, ws)) (a_cons h1 (a_cons h2 a_nil)) rfl h
theorem O_law_line_by (h1 : SE true t1 Γ C (tI c)) (h2 : SE true t2 Γ C (tIs zero)) : SO (tCall sp_law_line_by [] E (tCons t1 (tCons t2 tNil))) Γ C ((lineBy c zero).map .int) := o_call (c, zero) (a_cons h1 (a_cons h2 a_nil)) rfl trivial
theorem O_law_rest (h1 : SE true t1 Γ C (tIs g)) (h2 : SE true t2 Γ C (tLl ks)) (h3 : SE true t3 Γ C (tI wh)) (h4 : SE true t4 Γ C (tIs ws)) (h : Sm (wh :: ws) ∧ g.length ≤ 1000) : SO (tCall sp_law_rest [] E (tCons t1 (tCons t2 (tCons t3 (tCons t4 tNil))))) Γ C ((restL g ks wh ws).map .int) := o_call ((g, ks), (wh, ws)) (a_cons h1 (a_cons h2 (a_cons h3 (a_cons h4 a_nil)))) rfl h
end
end Sw
/-! crafts -/
namespace Sw
open PySem L2
inductive DeedM where
  | set (h : Int) (l : List Int)
  | part (h : Int) (l : List Int) (b : Int)
  | draw (h lo hi : Int)
  | turn (l : List Int) (to : Int)
  | hold (l : List Int)
  | call (n g0 g1 t0 t1 : Int)
def dTag : DeedM → Str
  | .set _ _ => "set"
  | .part _ _ _ => "part"
  | .draw _ _ _ => "draw"
  | .turn _ _ => "turn"
  | .hold _ => "hold"
  | .call _ _ _ _ _ => "call"
def dParts : DeedM → List PyData
  | .set h l => [.str "set", .int h, dIs l]
  | .part h l b => [.str "part", .int h, dIs l, .int b]
  | .draw h lo hi => [.str "draw", .int h, .int lo, .int hi]
  | .turn l to => [.str "turn", dIs l, .int to]
  | .hold l => [.str "hold", dIs l]
  | .call n g0 g1 t0 t1 => [.str "call", .int n, .tuple [.int g0, .int g1], .tuple [.int t0, .int t1]]
abbrev dDeed (d : DeedM) : PyData := .tuple (dParts d)
theorem dParts_0 (d : DeedM) : atI (dParts d) 0 = some (.str (dTag d)) := by cases d <;> exact atI_nat (j := 0) rfl
structure CraftM where
  needs : List (List Int)
  leaves : List (List Int)
  deeds : List DeedM
  notes : List (List (List Int))
abbrev dDeeds (ds : List DeedM) : PyData := .list (ds.map dDeed)
abbrev dNotes (ns : List (List (List Int))) : PyData := .list (ns.map dLs)
def cNames : List Str := ["needs", "leaves", "deeds", "notes"]
def cTys (c : CraftM) : List Ty := [tLl c.needs, tLl c.leaves, tD (dDeeds c.deeds), tD (dNotes c.notes)]
abbrev tCraft (ca : CA) (c : CraftM) : Ty := tObj ca.Craft cNames (cTys c)
theorem cNames_nd : cNames.Nodup := by decide +kernel
/-- not too long -/
structure CraftSm (c : CraftM) : Prop where
  n : c.needs.length ≤ 1000
  l : c.leaves.length ≤ 1000
  d : c.deeds.length ≤ 1000
  t : c.notes.length ≤ 1000
  ts : ∀ x ∈ c.notes, x.length ≤ 1000
/-- lines of nine, factors not too large -/
def Lines9 (ls : List (List Int)) : Prop := ∀ l ∈ ls, l.length = 9 ∧ Sm l.tail
def leftEight : List (List Int) := [0, 1, 2, 3, 4, 5, 0, 1].map bareL
def dueL (c : CraftM) (place : Nat) : List (List Int) := if place < c.deeds.length then c.notes.getD place [] else c.leaves.map fun l => turnedL l leftEight
abbrev sp_copied : Sp := spV (fun ls : List (List Int) => [tLl ls]) (fun ls => ls.length ≤ 1000) (fun ls => tLl ls)
abbrev sp_fresh : Sp := spV (fun d : DeedM => [tD (dDeed d)]) (fun _ => True) (fun d => tD (dDeed d))
abbrev sp_Craft (ca : CA) : Sp := spI ca.Craft cNames cTys CraftSm cTys
abbrev sp_due_at (ca : CA) : Sp := spV (fun a : CraftM × Nat => [tCraft ca a.1, tI (a.2 : Int)]) (fun a => CraftSm a.1 ∧ a.1.notes.length = a.1.deeds.length ∧ Lines9 a.1.leaves) (fun a => tLl (dueL a.1 a.2))
section
variable {m : Bool} {Γ : List Sl} {C : List Cell} {E : XK} {t1 t2 t3 t4 : TE} {ls : List (List Int)} {d : DeedM} {ca : CA} {c : CraftM} {L : Hp} {line : List Int}
theorem E_copied (h1 : SE false t1 Γ C (tLl ls)) (h : ls.length ≤ 1000) : SE true (tCall sp_copied [] E (tCons t1 tNil)) Γ C (tLl ls) := e_callV ls (a_cons h1 a_nil) rfl h
theorem E_fresh (h1 : SE false t1 Γ C (tD (dDeed d))) : SE true (tCall sp_fresh [] E (tCons t1 tNil)) Γ C (tD (dDeed d)) := e_callV d (a_cons h1 a_nil) rfl trivial
theorem E_Craft (h1 : SE false t1 Γ C (tLl c.needs)) (h2 : SE false t2 Γ C (tLl c.leaves)) (h3 : SE false t3 Γ C (tD (dDeeds c.deeds))) (h4 : SE false t4 Γ C (tD (dNotes c.notes))) (h : CraftSm c) : SE true (tMake ca.Craft (sp_Craft ca) [] E (tCons t1 (tCons t2 (tCons t3 (tCons t4 tNil))))) Γ C (tCraft ca c) :=
  e_make c (a_cons h1 (a_cons h2 (a_cons h3 (a_cons h4 a_nil)))) rfl h
theorem E_due_at {place : Nat} (h1 : SE false t1 Γ C (tCraft ca c)) (h2 : SE false t2 Γ C (tI (place : Int))) (h : CraftSm c ∧ c.notes.length = c.deeds.length ∧ Lines9 c.leaves) : SE true (tCall (sp_due_at ca) [] E (tCons t1 (tCons t2 tNil))) Γ C (tLl (dueL c place)) := e_callV (c, place) (a_cons h1 (a_cons h2 a_nil)) rfl h
theorem O_turnedV (h1 : SE false t1 Γ C (tIs line)) (h2 : SE false t2 Γ C (tLl ls)) (h : line.length = 9 ∧ Sm line.tail ∧ ls.length ≤ 1000) : SO (tCall sp_turned [] E (tCons t1 (tCons t2 tNil))) Γ C ((turnedL line ls).map .int) := o_callV (line, ls) (a_cons h1 (a_cons h2 a_nil)) rfl h (atvs_ints _)
end
/-! the laws' own hands -/
def deedBy (cell count : Int) : DeedM :=
  let line := lineBy (cell / 11) [6, 7]
  let hand := mix cell 3 4
  let kind := mix cell 4 6
  if kind = 0 then .set hand line
  else if kind = 1 then .part hand line (([1, 1000, 1 + mix cell 5 1000, 2] : List Int).getD (mix cell 6 4).toNat 0)
  else if kind = 2 then .draw hand (num (cell / 13) 7) (if num (cell / 17) 8 > num (cell / 13) 7 then num (cell / 17) 8 else num (cell / 13) 7)
  else if kind = 3 then .turn line (mix cell 9 (count + 1))
  else if kind = 4 then .hold line
  else .call (mix cell 12 100) (mix cell 10 4) (mix cell 11 4) hand ((hand + 1 + mix cell 13 3) % 4)
def linesBy (cell : Int) (zero : List Int) : List (List Int) := (List.range (mix cell 20 3).toNat).map fun k : Nat => lineBy (cell + 77 * (k : Int)) zero
def partsBy (ns : List Int) (start : Int) (count : Nat) : CraftM where
  needs := linesBy (cellAt ns start) [0, 1, 2, 3, 6, 7]
  leaves := linesBy (cellAt ns (start + 1)) [0, 1, 2, 3]
  deeds := (List.range count).map fun k : Nat => deedBy (cellAt ns (start + 2 + (k : Int))) (count : Int)
  notes := (List.range count).map fun k : Nat => linesBy (cellAt ns (start + 2 + (k : Int)) / 19) [6, 7]
def dParts4 (c : CraftM) : List PyData := [dLs c.needs, dLs c.leaves, dDeeds c.deeds, dNotes c.notes]
abbrev sp_law_deed_by : Sp := spP (fun a : Int × Int => [tI a.1, tI a.2]) (fun a => 0 ≤ a.2 ∧ a.2 ≤ 1000) (fun a => tD (dDeed (deedBy a.1 a.2)))
abbrev sp_law_lines_by : Sp := spP (fun a : Int × List Int => [tI a.1, tIs a.2]) (fun _ => True) (fun a => tLl (linesBy a.1 a.2))
abbrev sp_law_parts_by (K : PySem.W.Frag) : Sp := spP (fun a : List Int × Int × Nat => [tScr K a.1, tI a.2.1, tI (a.2.2 : Int)]) (fun a => 0 ≤ a.2.1 ∧ a.2.2 ≤ 1000) (fun a => tLs (dParts4 (partsBy a.1 a.2.1 a.2.2)))
theorem lines_n (cell : Int) (zero : List Int) : (linesBy cell zero).length ≤ 2 := by
  unfold linesBy
  rw [List.length_map, List.length_range]
  have := mix_hi (c := cell) (k := 20) (m := 3) (by decide)
  omega
theorem lines_9 (cell : Int) (zero : List Int) : Lines9 (linesBy cell zero) := fun l hl => by
  obtain ⟨k, _, rfl⟩ := List.mem_map.mp hl
  refine ⟨lby_len _ _ 8, fun x hx => ?_⟩
  have := lby_bd x (List.mem_of_mem_tail hx)
  omega
section
variable {K : PySem.W.Frag} {m : Bool} {Γ : List Sl} {C : List Cell} {E : XK} {t1 t2 t3 : TE} {ns zero : List Int} {c k start : Int} {count : Nat}
theorem E_law_deed_by (h1 : SE true t1 Γ C (tI c)) (h2 : SE true t2 Γ C (tI k)) (h : 0 ≤ k ∧ k ≤ 1000) : SE true (tCall sp_law_deed_by [] E (tCons t1 (tCons t2 tNil))) Γ C (tD (dDeed (deedBy c k))) := e_call (c, k) (a_cons h1 (a_cons h2 a_nil)) rfl h
theorem E_law_lines_by (h1 : SE true t1 Γ C (tI c)) (h2 : SE true t2 Γ C (tIs zero)) : SE true (tCall sp_law_lines_by [] E (tCons t1 (tCons t2 tNil))) Γ C (tLl (linesBy c zero)) := e_call (c, zero) (a_cons h1 (a_cons h2 a_nil)) rfl trivial
theorem E_law_parts_by (h1 : SE true t1 Γ C (tScr K ns)) (h2 : SE true t2 Γ C (tI start)) (h3 : SE true t3 Γ C (tI (count : Int))) (h : 0 ≤ start ∧ count ≤ 1000) : SE true (tCall (sp_law_parts_by K) [] E (tCons t1 (tCons t2 (tCons t3 tNil)))) Γ C (tLs (dParts4 (partsBy ns start count))) := e_call (ns, start, count) (a_cons h1 (a_cons h2 (a_cons h3 a_nil))) rfl h
end
theorem parts_sm (ns : List Int) (start : Int) {count : Nat} (h : count ≤ 1000) : CraftSm (partsBy ns start count) :=
  ⟨Nat.le_trans (lines_n _ _) (by decide), Nat.le_trans (lines_n _ _) (by decide), by simpa [partsBy] using h, by simpa [partsBy] using h, fun x hx => by
    obtain ⟨k, _, rfl⟩ := List.mem_map.mp hx
    exact Nat.le_trans (lines_n _ _) (by decide)⟩
/-! due -/
def lawLeaf (l : List Int) : List Int := [l.getD 0 0, l.getD 7 0, l.getD 8 0, 0, 0, l.getD 5 0, l.getD 6 0, 0, 0]
def lawDue (c : CraftM) (place : Nat) : List (List Int) := if place < c.deeds.length then c.notes.getD place [] else c.leaves.map lawLeaf
theorem left_eq {l : List Int} (h : l.length = 9) : turnedL l leftEight = [l.getD 0 0, l.getD 1 0 + l.getD 7 0, l.getD 2 0 + l.getD 8 0, l.getD 3 0, l.getD 4 0, l.getD 5 0, l.getD 6 0, 0, 0] := by
  match l, h with
  | [a0, a1, a2, a3, a4, a5, a6, a7, a8], _ =>
    refine line_ext (turned_len (by decide)) rfl fun k hk => ?_
    rw [turned_get hk (by decide)]
    have hc : k = 0 ∨ k = 1 ∨ k = 2 ∨ k = 3 ∨ k = 4 ∨ k = 5 ∨ k = 6 ∨ k = 7 ∨ k = 8 := by omega
    rcases hc with rfl | rfl | rfl | rfl | rfl | rfl | rfl | rfl | rfl <;> simp [colsum, leftEight, bareL, steadyL, List.range, List.range.loop]
theorem left_leaf {l : List Int} (h : l.length = 9) (h1 : l.getD 1 0 = 0) (h2 : l.getD 2 0 = 0) (h3 : l.getD 3 0 = 0) (h4 : l.getD 4 0 = 0) : turnedL l leftEight = lawLeaf l := by
  rw [left_eq h, h1, h2, h3, h4, Int.zero_add, Int.zero_add]
  rfl
theorem lby_zero {c : Int} {zero : List Int} {j : Nat} (hj : j < 8) (hz : (j : Int) ∈ zero) : (lineBy c zero).getD (j + 1) 0 = 0 := by
  rw [getD_of (lby_get (by omega)), if_pos ⟨by omega, by omega, .inl (by rw [show ((j + 1 : Nat) : Int) - 1 = (j : Int) by omega]; exact hz)⟩]
theorem lines_in {c : Int} {zero : List Int} {l : List Int} (h : l ∈ linesBy c zero) : ∃ c', l = lineBy c' zero := by
  obtain ⟨k, _, rfl⟩ := List.mem_map.mp h
  exact ⟨_, rfl⟩
theorem due_law (ns : List Int) (start : Int) (count place : Nat) : dueL (partsBy ns start count) place = lawDue (partsBy ns start count) place := by
  unfold dueL lawDue
  split
  · rfl
  · refine List.map_congr_left fun l hl => ?_
    have h9 := (lines_9 _ _ l hl).1
    obtain ⟨c', rfl⟩ := lines_in hl
    exact left_leaf h9 (lby_zero (j := 0) (by decide) (by decide)) (lby_zero (j := 1) (by decide) (by decide)) (lby_zero (j := 2) (by decide) (by decide)) (lby_zero (j := 3) (by decide) (by decide))
theorem okd_str {x : Str} (h : PyData.strOk x = true) : okd 0 (.str x) := ⟨by unfold PyData.canLay0; exact h, by unfold PyData.depth; exact Nat.le_refl _⟩
theorem okds_nil {n : Nat} : ∀ d ∈ ([] : List PyData), okd n d := fun _ z => (nomatch z)
theorem okds_cons {n : Nat} {d : PyData} {ds : List PyData} (h : okd n d) (hs : ∀ x ∈ ds, okd n x) : ∀ x ∈ d :: ds, okd n x := fun x hx => by
  rcases List.mem_cons.mp hx with e | hx
  · rw [e]; exact h
  · exact hs x hx
theorem okd_pair (i j : Int) : okd 1 (.tuple [.int i, .int j]) := okd_tup (okds_cons (okd_int i) (okds_cons (okd_int j) okds_nil))
theorem okd_deed : ∀ d : DeedM, okd 3 (dDeed d)
  | .set h l => okd_tup (okds_cons ((okd_str (by decide +kernel)).mono (by decide)) (okds_cons ((okd_int h).mono (by decide)) (okds_cons ((okd_ints l).mono (by decide)) okds_nil)))
  | .part h l b => okd_tup (okds_cons ((okd_str (by decide +kernel)).mono (by decide)) (okds_cons ((okd_int h).mono (by decide)) (okds_cons ((okd_ints l).mono (by decide)) (okds_cons ((okd_int b).mono (by decide)) okds_nil))))
  | .draw h lo hi => okd_tup (okds_cons ((okd_str (by decide +kernel)).mono (by decide)) (okds_cons ((okd_int h).mono (by decide)) (okds_cons ((okd_int lo).mono (by decide)) (okds_cons ((okd_int hi).mono (by decide)) okds_nil))))
  | .turn l to => okd_tup (okds_cons ((okd_str (by decide +kernel)).mono (by decide)) (okds_cons ((okd_ints l).mono (by decide)) (okds_cons ((okd_int to).mono (by decide)) okds_nil)))
  | .hold l => okd_tup (okds_cons ((okd_str (by decide +kernel)).mono (by decide)) (okds_cons ((okd_ints l).mono (by decide)) okds_nil))
  | .call n g0 g1 t0 t1 => okd_tup (okds_cons ((okd_str (by decide +kernel)).mono (by decide)) (okds_cons ((okd_int n).mono (by decide)) (okds_cons ((okd_pair g0 g1).mono (by decide)) (okds_cons ((okd_pair t0 t1).mono (by decide)) okds_nil))))
theorem okd_parts (c : CraftM) : okd 5 (.list (dParts4 c)) := okd_list fun b hb => by
  simp only [dParts4, List.mem_cons, List.not_mem_nil, or_false] at hb
  rcases hb with rfl | rfl | rfl | rfl
  · exact (okd_lls _).mono (by decide)
  · exact (okd_lls _).mono (by decide)
  · exact okd.mono (okd_list (n := 3) fun x hx => by
      obtain ⟨d, _, rfl⟩ := List.mem_map.mp hx
      exact okd_deed d) (by decide)
  · exact okd.mono (okd_list (n := 2) fun x hx => by
      obtain ⟨d, _, rfl⟩ := List.mem_map.mp hx
      exact okd_lls d) (by decide)
theorem ni_deeds (ds : List DeedM) : NI (ds.map dDeed) := ni_map (f := dDeed) (fun _ _ e => nomatch e) ds
theorem ni_lines (ls : List (List Int)) : NI (ls.map dIs) := ni_map (f := dIs) (fun _ _ e => nomatch e) ls
theorem ni_notes (ns : List (List (List Int))) : NI (ns.map dLs) := ni_map (f := dLs) (fun _ _ e => nomatch e) ns
/-- all lines of a deed are of nine -/
def DeedLn : DeedM → Prop
  | .set _ l | .part _ l _ | .turn l _ | .hold l => l.length = 9
  | _ => True
theorem deed_ln (cell count : Int) : DeedLn (deedBy cell count) := by
  unfold deedBy
  dsimp only
  split
  · exact lby_len _ _ 8
  · split
    · exact lby_len _ _ 8
    · split
      · trivial
      · split
        · exact lby_len _ _ 8
        · split
          · exact lby_len _ _ 8
          · trivial
theorem part_kind {d : DeedM} (h : DeedLn d) : ∀ b ∈ dParts d, (∃ l : List Int, l ≠ [] ∧ b = dIs l) ∨ noL b = true := fun b hb => by
  have ne : ∀ {l : List Int}, l.length = 9 → l ≠ [] := fun h e => by rw [e] at h; cases h
  cases d <;> simp only [dParts, List.mem_cons, List.not_mem_nil, or_false] at hb
  case set => rcases hb with rfl | rfl | rfl <;> first | exact .inr rfl | exact .inl ⟨_, ne h, rfl⟩
  case part => rcases hb with rfl | rfl | rfl | rfl <;> first | exact .inr rfl | exact .inl ⟨_, ne h, rfl⟩
  case draw => rcases hb with rfl | rfl | rfl | rfl <;> exact .inr rfl
  case turn => rcases hb with rfl | rfl | rfl <;> first | exact .inr rfl | exact .inl ⟨_, ne h, rfl⟩
  case hold => rcases hb with rfl | rfl <;> first | exact .inr rfl | exact .inl ⟨_, ne h, rfl⟩
  case call => rcases hb with rfl | rfl | rfl | rfl <;> exact .inr rfl
abbrev sp_law_due8 : Sp := spV (fun a : CraftM × Nat => [tLs (dParts4 a.1), tI (a.2 : Int)]) (fun a => CraftSm a.1 ∧ a.1.notes.length = a.1.deeds.length ∧ Lines9 a.1.leaves) (fun a => tLl (lawDue a.1 a.2))
abbrev sp_law_alike8 : Sp := spP (fun ls : List (List Int) => [tLl ls, tLl ls]) (fun ls => (∀ l ∈ ls, l.length = 9) ∧ ls.length ≤ 1000) (fun _ => tBo true)
section
variable {m : Bool} {Γ : List Sl} {C : List Cell} {E : XK} {t1 t2 : TE} {c : CraftM} {place : Nat} {ls : List (List Int)}
theorem E_law_due8 (h1 : SE false t1 Γ C (tLs (dParts4 c))) (h2 : SE false t2 Γ C (tI (place : Int))) (h : CraftSm c ∧ c.notes.length = c.deeds.length ∧ Lines9 c.leaves) : SE true (tCall sp_law_due8 [] E (tCons t1 (tCons t2 tNil))) Γ C (tLl (lawDue c place)) := e_callV (c, place) (a_cons h1 (a_cons h2 a_nil)) rfl h
theorem V_law_alike8 (h1 : SE false t1 Γ C (tLl ls)) (h2 : SE false t2 Γ C (tLl ls)) (h : (∀ l ∈ ls, l.length = 9) ∧ ls.length ≤ 1000) : SE m (tCall sp_law_alike8 [] E (tCons t1 (tCons t2 tNil))) Γ C (tBo true) := e_callA ls (a_cons h1 (a_cons h2 a_nil)) rfl h atom_bl
theorem M_due_at {ca : CA} (h1 : SE false t1 Γ C (tCraft ca c)) (h2 : SE false t2 Γ C (tI (place : Int))) (h : CraftSm c ∧ c.notes.length = c.deeds.length ∧ Lines9 c.leaves) : SM (tCall (sp_due_at ca) [] E (tCons t1 (tCons t2 tNil))) Γ C NoT (fun L => tRg L (dLs (dueL c place))) (fun L => cReg L :: C) (fun L q => ∃ o, L q = some o) := m_rgV (c, place) (a_cons h1 (a_cons h2 a_nil)) rfl h
end
end Sw
namespace Sw
open PySem L2
def topS (i : Nat) : Stmt := PySem.Challenge.pw_swornhall_k08_due_lines.main.body.getD i (.Pass ⟨0, 0, 0, 0⟩)
abbrev s_bare : Stmt := topS 1
abbrev n_bare : List Str := ["i", "k"]
theorem sc_bare : FnScope n_bare ["i"] (defScope s_bare) := ⟨rfl, rfl, rfl, by decide +kernel, rfl, by decide +kernel, by decide +kernel⟩
abbrev s_steady : Stmt := topS 2
abbrev n_steady : List Str := ["number"]
theorem sc_steady : FnScope n_steady ["number"] (defScope s_steady) := ⟨rfl, rfl, rfl, by decide +kernel, rfl, by decide +kernel, by decide +kernel⟩
abbrev s_summed : Stmt := topS 3
abbrev n_summed : List Str := ["lines", "weights", "total", "line", "weight", "a", "b"]
theorem sc_summed : FnScope n_summed ["lines", "weights"] (defScope s_summed) := ⟨rfl, rfl, rfl, by decide +kernel, rfl, by decide +kernel, by decide +kernel⟩
abbrev s_turned : Stmt := topS 4
abbrev n_turned : List Str := ["line", "eight"]
theorem sc_turned : FnScope n_turned ["line", "eight"] (defScope s_turned) := ⟨rfl, rfl, rfl, by decide +kernel, rfl, by decide +kernel, by decide +kernel⟩
abbrev s_copied : Stmt := topS 5
abbrev n_copied : List Str := ["lines", "line"]
theorem sc_copied : FnScope n_copied ["lines"] (defScope s_copied) := ⟨rfl, rfl, rfl, by decide +kernel, rfl, by decide +kernel, by decide +kernel⟩
abbrev s_Craft___init : Stmt := inClass (topS 7) 0
abbrev n_Craft___init : List Str := ["self", "needs", "leaves", "deeds", "notes", "deed", "lines"]
theorem sc_Craft___init : FnScope n_Craft___init ["self", "needs", "leaves", "deeds", "notes"] (defScope s_Craft___init) := ⟨rfl, rfl, rfl, by decide +kernel, rfl, by decide +kernel, by decide +kernel⟩
abbrev s_fresh : Stmt := topS 8
abbrev n_fresh : List Str := ["deed"]
theorem sc_fresh : FnScope n_fresh ["deed"] (defScope s_fresh) := ⟨rfl, rfl, rfl, by decide +kernel, rfl, by decide +kernel, by decide +kernel⟩
abbrev s_due_at : Stmt := topS 9
abbrev n_due_at : List Str := ["craft", "place", "eight", "i", "line"]
theorem sc_due_at : FnScope n_due_at ["craft", "place"] (defScope s_due_at) := ⟨rfl, rfl, rfl, by decide +kernel, rfl, by decide +kernel, by decide +kernel⟩
abbrev s_law_cell_at : Stmt := topS 11
abbrev n_law_cell_at : List Str := ["script", "k"]
theorem sc_law_cell_at : FnScope n_law_cell_at ["script", "k"] (defScope s_law_cell_at) := ⟨rfl, rfl, rfl, by decide +kernel, rfl, by decide +kernel, by decide +kernel⟩
abbrev s_law_mix : Stmt := topS 12
abbrev n_law_mix : List Str := ["cell", "k", "many"]
theorem sc_law_mix : FnScope n_law_mix ["cell", "k", "many"] (defScope s_law_mix) := ⟨rfl, rfl, rfl, by decide +kernel, rfl, by decide +kernel, by decide +kernel⟩
abbrev s_law_number : Stmt := topS 13
abbrev n_law_number : List Str := ["cell", "k", "kind"]
theorem sc_law_number : FnScope n_law_number ["cell", "k"] (defScope s_law_number) := ⟨rfl, rfl, rfl, by decide +kernel, rfl, by decide +kernel, by decide +kernel⟩
abbrev s_law_line_by : Stmt := topS 14
abbrev n_law_line_by : List Str := ["cell", "zero", "line", "k"]
theorem sc_law_line_by : FnScope n_law_line_by ["cell", "zero"] (defScope s_law_line_by) := ⟨rfl, rfl, rfl, by decide +kernel, rfl, by decide +kernel, by decide +kernel⟩
abbrev s_law_deed_by : Stmt := topS 15
abbrev n_law_deed_by : List Str := ["cell", "count", "line", "hand", "kind", "low", "given"]
theorem sc_law_deed_by : FnScope n_law_deed_by ["cell", "count"] (defScope s_law_deed_by) := ⟨rfl, rfl, rfl, by decide +kernel, rfl, by decide +kernel, by decide +kernel⟩
abbrev s_law_lines_by : Stmt := topS 16
abbrev n_law_lines_by : List Str := ["cell", "zero", "k"]
theorem sc_law_lines_by : FnScope n_law_lines_by ["cell", "zero"] (defScope s_law_lines_by) := ⟨rfl, rfl, rfl, by decide +kernel, rfl, by decide +kernel, by decide +kernel⟩
abbrev s_law_parts_by : Stmt := topS 17
abbrev n_law_parts_by : List Str := ["script", "start", "count", "needs", "leaves", "deeds", "notes", "k"]
theorem sc_law_parts_by : FnScope n_law_parts_by ["script", "start", "count"] (defScope s_law_parts_by) := ⟨rfl, rfl, rfl, by decide +kernel, rfl, by decide +kernel, by decide +kernel⟩
abbrev s_law_whole : Stmt := topS 18
abbrev n_law_whole : List Str := ["found"]
theorem sc_law_whole : FnScope n_law_whole ["found"] (defScope s_law_whole) := ⟨rfl, rfl, rfl, by decide +kernel, rfl, by decide +kernel, by decide +kernel⟩
abbrev s_law_is_line : Stmt := topS 19
abbrev n_law_is_line : List Str := ["found", "x"]
theorem sc_law_is_line : FnScope n_law_is_line ["found"] (defScope s_law_is_line) := ⟨rfl, rfl, rfl, by decide +kernel, rfl, by decide +kernel, by decide +kernel⟩
abbrev s_law_due : Stmt := topS 20
abbrev n_law_due : List Str := ["parts", "place", "due", "line"]
theorem sc_law_due : FnScope n_law_due ["parts", "place"] (defScope s_law_due) := ⟨rfl, rfl, rfl, by decide +kernel, rfl, by decide +kernel, by decide +kernel⟩
abbrev s_law_alike : Stmt := topS 21
abbrev n_law_alike : List Str := ["found", "due", "line"]
theorem sc_law_alike : FnScope n_law_alike ["found", "due"] (defScope s_law_alike) := ⟨rfl, rfl, rfl, by decide +kernel, rfl, by decide +kernel, by decide +kernel⟩
abbrev s_law : Stmt := topS 22
abbrev n_law : List Str := ["script", "count", "parts", "place", "craft", "kept", "due", "deed", "part", "lines", "line", "found"]
theorem sc_law : FnScope n_law ["script"] (defScope s_law) := ⟨rfl, rfl, rfl, by decide +kernel, rfl, by decide +kernel, by decide +kernel⟩
structure Txt (K : PySem.W.Frag) (mg : Str → Option Value) (ca : CA) : Prop where
  m_Craft : DefI K mg ca.Craft "Craft" "Craft.__init__" s_Craft___init ["self", "needs", "leaves", "deeds", "notes"]
  k_Craft : Cls K ca.Craft
  n_Craft_needs : NoAttr K ca.Craft "needs"
  n_Craft_leaves : NoAttr K ca.Craft "leaves"
  n_Craft_deeds : NoAttr K ca.Craft "deeds"
  n_Craft_notes : NoAttr K ca.Craft "notes"
  d_bare : Def K mg "bare" s_bare ["i"]
  d_steady : Def K mg "steady" s_steady ["number"]
  d_summed : Def K mg "summed" s_summed ["lines", "weights"]
  d_turned : Def K mg "turned" s_turned ["line", "eight"]
  d_copied : Def K mg "copied" s_copied ["lines"]
  d_fresh : Def K mg "fresh" s_fresh ["deed"]
  d_due_at : Def K mg "due_at" s_due_at ["craft", "place"]
  d_law_cell_at : Def K mg "_law_cell_at" s_law_cell_at ["script", "k"]
  d_law_mix : Def K mg "_law_mix" s_law_mix ["cell", "k", "many"]
  d_law_number : Def K mg "_law_number" s_law_number ["cell", "k"]
  d_law_line_by : Def K mg "_law_line_by" s_law_line_by ["cell", "zero"]
  d_law_deed_by : Def K mg "_law_deed_by" s_law_deed_by ["cell", "count"]
  d_law_lines_by : Def K mg "_law_lines_by" s_law_lines_by ["cell", "zero"]
  d_law_parts_by : Def K mg "_law_parts_by" s_law_parts_by ["script", "start", "count"]
  d_law_whole : Def K mg "_law_whole" s_law_whole ["found"]
  d_law_is_line : Def K mg "_law_is_line" s_law_is_line ["found"]
  d_law_due : Def K mg "_law_due" s_law_due ["parts", "place"]
  d_law_alike : Def K mg "_law_alike" s_law_alike ["found", "due"]
  d_law : Def K mg "law" s_law ["script"]
  z_all : mg "all" = none
  z_bool : mg "bool" = none
  z_int : mg "int" = none
  z_isinstance : mg "isinstance" = none
  z_len : mg "len" = none
  z_list : mg "list" = none
  z_max : mg "max" = none
  z_range : mg "range" = none
  z_zip : mg "zip" = none
section
variable {P : Program} {w : World} {K : PySem.W.Frag} {mg : Str → Option Value} {base : Heap} {ca : CA}
/-! ### bare -/
-- needs: base
theorem c_bare (T : Txt K mg ca) : Cal P w K mg base 1 "bare" ["i"] sp_bare := by
  refine fn_O T.d_bare sc_bare (fun _ => rfl) fun f cdv A outer s H E hr => ⟨_, (pss_cons (ps_ret (pe_lc (own := [("k", 1)]) (g := (gName 1)) (tt := tYes) rfl sc_bare.nd (pi_range1 rfl T.z_range (pa_cons pe_int pa_nil)) (blkOk_by (N := n_bare) (sc := defScope s_bare) (by decide +kernel)) (fun _ _ _ _ _ => (pg_name (i := 1) sc_bare.nd rfl (.inl rfl))) (fun _ _ _ _ _ => pts_nil) (fun _ _ _ _ _ => (pe_callTy call_int1 (by rfl) T.z_int (by decide +kernel) (pa_cons (pe_cmpR op_eq (pv 1) (pe_op op_add (pv 0) pe_int) (nomark _)) pa_nil)))))
    pss_nil), ?_⟩
  rintro i F hF hc
  try dsimp only [L2.cxOf]
  refine ss_retNewIs (o_lcI (fun k : Nat => if decide ((k : Int) = i + 1) then 1 else 0) (w_range1 (a_cons e_int a_nil) (by decide) (by decide)) (by simp) fun j k hk => ⟨_, _, g_name, by simp, (e_cb (a_cons (e_op (e_var rfl) (e_op (e_var rfl) e_int r_I0) r_eqI) a_nil) c_intB)⟩) ?_
  have e : (fun k : Nat => if decide ((k : Int) = i + 1) = true then (1 : Int) else 0) = fun k : Nat => if (k : Int) = i + 1 then 1 else 0 := by funext k; simp
  unfold bareL
  rw [← e]
  rfl

/-! ### steady -/
-- needs: base
theorem c_steady (T : Txt K mg ca) : Cal P w K mg base 1 "steady" ["number"] sp_steady := by
  refine fn_O T.d_steady sc_steady (fun _ => rfl) fun f cdv A outer s H E hr => ⟨_, (pss_cons (ps_ret (pe_op op_cat (pe_lst (pa_cons (pv 0) pa_nil)) (pe_op op_rep (pe_lst (pa_cons pe_int pa_nil)) pe_int)))
    pss_nil), ?_⟩
  rintro n F hF hc
  exact ss_retNewIs (o_cat (e_lst (ad_cons (e_var rfl) ad_nil) (by simp)) (e_ofO (o_rep1 e_int e_int (by decide) (by decide))) (by simp)) rfl

/-! ### summed -/
-- needs: base
theorem c_summed (T : Txt K mg ca) : Cal P w K mg base 1 "summed" ["lines", "weights"] sp_summed := by
  refine fn_O T.d_summed sc_summed (fun _ => rfl) fun f cdv A outer s H E hr => ⟨_, (pss_cons (ps_set (i := 2) sc_summed.nd rfl (.inl rfl) (pe_op op_rep (pe_lst (pa_cons pe_int pa_nil)) pe_int))
    (pss_cons (ps_for PassesOwn.never rfl (kpZip K T.z_zip (pa_cons (pv 0) (pa_cons (pv 1) pa_nil))) (kgTup K 2 rfl (pgs_cons (pg_name (i := 3) sc_summed.nd rfl (.inl rfl)) (pgs_cons (pg_name (i := 4) sc_summed.nd rfl (.inr rfl)) pgs_nil)))
    (pss_cons (ps_setLc (i := 2) (own := [("a", 5), ("b", 6)]) (g := (gTup K 2 (gCons (gName 5) (gCons (gName 6) gNil)))) (tt := tYes) rfl sc_summed.nd rfl rfl (sw_true rfl rfl rfl (by decide +kernel)) (kpZip K T.z_zip (pa_cons (pv 2) (pa_cons (pv 3) pa_nil))) (blkOk_by (N := n_summed) (sc := defScope s_summed) (by decide +kernel)) (fun _ _ _ _ _ => (kgTup K 2 rfl (pgs_cons (pg_name (i := 5) sc_summed.nd rfl (.inl rfl)) (pgs_cons (pg_name (i := 6) sc_summed.nd rfl (.inl rfl)) pgs_nil)))) (fun _ _ _ _ _ => pts_nil) (fun _ _ _ _ _ => (pe_op op_add (pv 5) (pe_op op_mul (pv 4) (pv 6)))))
    pss_nil))
    (pss_cons (ps_ret (pv 2))
    pss_nil))), ?_⟩
  rintro ⟨lines, ws⟩ F hF hb
  try dsimp only [L2.cxOf]
  have hb : Sm ws ∨ ∀ l ∈ lines, Sm l := hb
  refine ss_setO (o_rep1 e_int e_int (by decide) (by decide)) fun p _ hn => ?_
  refine ss_for (γ := Addr) (w_map (ys := lines.zip ws) (f := fun p : List Int × Int => (dIs p.1, PyData.int p.2)) (ty' := fun p => tTp [dIs p.1, .int p.2]) (w_zip (a_cons (e_var rfl) (a_cons (e_var rfl) a_nil))) (zip_map_line lines ws) (fun _ => rfl))
    (fun _ p => F.H p = none) (fun i p => [some (tLl lines), some (tIs ws), some (tV (.ref p)), none, none, none, none]) (fun i p => [cL p ((((lines.zip ws).take i).foldl (fun t p => zipAdd t p.1 p.2) zeros).map .int)]) p hn
    ⟨.inr rfl, .inr rfl, .inr rfl, .inl rfl, .inl rfl, .inl rfl, .inl rfl, trivial⟩ (by rfl) ?_ ?_
  · rintro i p ⟨line, wt⟩ hi hp
    refine ⟨_, _, g_tup (gs_cons g_name (gs_cons g_name gs_nil)) rfl, ?_⟩
    generalize hT : ((lines.zip ws).take i).foldl (fun t p => zipAdd t p.1 p.2) zeros = total
    refine ss_settle 2 rfl hp ?_
    have hx : line ∈ lines := (List.of_mem_zip (List.mem_of_getElem? hi)).1
    have hy : wt ∈ ws := (List.of_mem_zip (List.mem_of_getElem? hi)).2
    refine ss_setO (o_lcI (xs := total.zip line) (ty := fun p : Int × Int => tTp [.int p.1, .int p.2]) (fun p : Int × Int => p.1 + wt * p.2) (w_map (w_zip (a_cons (e_var rfl) (a_cons (e_var rfl) a_nil))) (zip_map_int total line) (fun _ => rfl)) ?_ ?_) fun p' _ hn' => ?_
    · have h1 := fold_le (zs := (lines.zip ws).take i) (t := zeros)
      rw [hT] at h1
      have h2 : zeros.length = 9 := by simp [zeros]
      rw [List.length_zip]
      omega
    · rintro j ⟨a, b⟩ hj
      refine ⟨_, _, g_tup (gs_cons g_name (gs_cons g_name gs_nil)) rfl, by simp, e_op (e_var rfl) (e_op (e_var rfl) (e_var rfl) (r_I ?_)) r_I0⟩
      exact hb.elim (fun h => .inl (h wt hy)) (fun h => .inr (h line hx b (List.of_mem_zip (List.mem_of_getElem? hj)).2))
    · refine ss_nil fun σ H S s => ⟨p', hn', ?_⟩
      rw [foldl_take _ _ hi, hT]
      exact s.weak ⟨.inr rfl, .inr rfl, .inr rfl, .inl rfl, .inl rfl, .inl rfl, .inl rfl, trivial⟩
  · intro p hp
    refine ss_retOwnIs rfl hp ?_
    rw [List.take_length]
    rfl

/-! ### copied -/
-- needs: craft
theorem c_copied (T : Txt K mg ca) : Cal P w K mg base 1 "copied" ["lines"] sp_copied := by
  refine fn_V T.d_copied sc_copied (fun _ => rfl) fun f cdv A outer s H E hr => ⟨_, (pss_cons (ps_ret (pe_lc (own := [("line", 1)]) (g := (gName 1)) (tt := tYes) rfl sc_copied.nd (kpList K (pv 0)) (blkOk_by (N := n_copied) (sc := defScope s_copied) (by decide +kernel)) (fun _ _ _ _ _ => (pg_name (i := 1) sc_copied.nd rfl (.inl rfl))) (fun _ _ _ _ _ => pts_nil) (fun _ _ _ _ _ => (pe_callTy (kList K) (by rfl) T.z_list (by decide +kernel) (pa_cons (pv 1) pa_nil)))))
    pss_nil), ?_⟩
  rintro ls F L hF hL hn
  have hn : ls.length ≤ 1000 := hn
  exact ss_retP (e_ofO (o_lc0z (xs := ls) (ty := fun l => tOv L (tIs l)) dIs (w_mapz (w_ov (e_var rfl) hasRo) rfl (fun _ => rfl)) hasRo (by omega) fun i l hl => ⟨_, _, g_name, by simp, e_ofO (o_cb (a_cons (e_vv rfl hasRo) a_nil) (c_listA (atvs_ints l)))⟩))

/-! ### fresh -/
-- needs: craft
theorem c_fresh (T : Txt K mg ca) : Cal P w K mg base 1 "fresh" ["deed"] sp_fresh := by
  refine fn_V T.d_fresh sc_fresh (fun _ => rfl) fun f cdv A outer s H E hr => ⟨_, (pss_cons (ps_if (pt_cmpR op_eq (pe_ix (kIxT K) (pv 0) pe_int (fun _ _ => rfl)) pe_str (nomark _))
    (pss_cons (ps_ret (pe_tup (pa_cons pe_str (pa_cons (pe_ix (kIxT K) (pv 0) pe_int (fun _ _ => rfl)) (pa_cons (pe_callTy (kList K) (by rfl) T.z_list (by decide +kernel) (pa_cons (pe_ix (kIxT K) (pv 0) pe_int (fun _ _ => rfl)) pa_nil)) pa_nil)))))
    pss_nil) pss_nil)
    (pss_cons (ps_if (pt_cmpR op_eq (pe_ix (kIxT K) (pv 0) pe_int (fun _ _ => rfl)) pe_str (nomark _))
    (pss_cons (ps_ret (pe_tup (pa_cons pe_str (pa_cons (pe_ix (kIxT K) (pv 0) pe_int (fun _ _ => rfl)) (pa_cons (pe_callTy (kList K) (by rfl) T.z_list (by decide +kernel) (pa_cons (pe_ix (kIxT K) (pv 0) pe_int (fun _ _ => rfl)) pa_nil)) (pa_cons (pe_ix (kIxT K) (pv 0) pe_int (fun _ _ => rfl)) pa_nil))))))
    pss_nil) pss_nil)
    (pss_cons (ps_if (pt_cmpR op_eq (pe_ix (kIxT K) (pv 0) pe_int (fun _ _ => rfl)) pe_str (nomark _))
    (pss_cons (ps_ret (pe_tup (pa_cons pe_str (pa_cons (pe_callTy (kList K) (by rfl) T.z_list (by decide +kernel) (pa_cons (pe_ix (kIxT K) (pv 0) pe_int (fun _ _ => rfl)) pa_nil)) (pa_cons (pe_ix (kIxT K) (pv 0) pe_int (fun _ _ => rfl)) pa_nil)))))
    pss_nil) pss_nil)
    (pss_cons (ps_if (pt_cmpR op_eq (pe_ix (kIxT K) (pv 0) pe_int (fun _ _ => rfl)) pe_str (nomark _))
    (pss_cons (ps_ret (pe_tup (pa_cons pe_str (pa_cons (pe_callTy (kList K) (by rfl) T.z_list (by decide +kernel) (pa_cons (pe_ix (kIxT K) (pv 0) pe_int (fun _ _ => rfl)) pa_nil)) pa_nil))))
    pss_nil) pss_nil)
    (pss_cons (ps_ret (pv 0))
    pss_nil))))), ?_⟩
  rintro d F L hF hL _
  have tg : ∀ s : Str, ST (tTest (tOp rEq (tOp (rIxT K) (tVar 0) (tC (.int 0))) (tC (.str s)))) [some (tOv L (tD (dDeed d)))] [(cReg L).ro] (decide (dTag d = s)) := fun s => t_testV (e_op (e_op (e_vv rfl hasRo) e_int (r_ixT (dParts_0 d))) e_str r_eqS)
  have ii : ∀ {j : Nat} {i : Int}, (dParts d)[j]? = some (.int i) → SE true (tOp (rIxT K) (tVar 0) (tC (.int (j : Int)))) [some (tOv L (tD (dDeed d)))] [(cReg L).ro] (tI i) := fun h => e_atom (e_op (e_vv rfl hasRo) e_int (r_ixT (atI_nat h))) atom_int
  have ll : ∀ {j : Nat} {l : List Int}, (dParts d)[j]? = some (dIs l) → SE true (tCB (rListS K) (tCons (tOp (rIxT K) (tVar 0) (tC (.int (j : Int)))) tNil)) [some (tOv L (tD (dDeed d)))] [(cReg L).ro] (tIs l) := fun h => e_ofO (o_cb (a_cons (e_op (e_vv rfl hasRo) e_int (r_ixT (atI_nat h))) a_nil) (c_listA (atvs_ints _)))
  show SS F _ [some (tOv L (tD (dDeed d)))] _ _
  cases d with
  | set h l => exact ss_if (b := true) (t_is (tg "set") (by rw [dTag] <;> decide +kernel)) (fun _ => ss_assoc (ss_retP (e_tup (ds := [.str "set", .int h, dIs l]) (ad_cons e_str (ad_cons (ii (j := 1) rfl) (ad_cons (ll (j := 2) rfl) ad_nil))) (by simp)))) (fun z => (nomatch z))
  | part h l b =>
    refine ss_if (b := false) (t_is (tg "set") (by rw [dTag] <;> decide +kernel)) (fun z => (nomatch z)) (fun _ => ss_next ?_)
    exact ss_if (b := true) (t_is (tg "part") (by rw [dTag] <;> decide +kernel)) (fun _ => ss_assoc (ss_retP (e_tup (ds := [.str "part", .int h, dIs l, .int b]) (ad_cons e_str (ad_cons (ii (j := 1) rfl) (ad_cons (ll (j := 2) rfl) (ad_cons (ii (j := 3) rfl) ad_nil)))) (by simp)))) (fun z => (nomatch z))
  | turn l to =>
    refine ss_if (b := false) (t_is (tg "set") (by rw [dTag] <;> decide +kernel)) (fun z => (nomatch z)) (fun _ => ss_next ?_)
    refine ss_if (b := false) (t_is (tg "part") (by rw [dTag] <;> decide +kernel)) (fun z => (nomatch z)) (fun _ => ss_next ?_)
    exact ss_if (b := true) (t_is (tg "turn") (by rw [dTag] <;> decide +kernel)) (fun _ => ss_assoc (ss_retP (e_tup (ds := [.str "turn", dIs l, .int to]) (ad_cons e_str (ad_cons (ll (j := 1) rfl) (ad_cons (ii (j := 2) rfl) ad_nil))) (by simp)))) (fun z => (nomatch z))
  | hold l =>
    refine ss_if (b := false) (t_is (tg "set") (by rw [dTag] <;> decide +kernel)) (fun z => (nomatch z)) (fun _ => ss_next ?_)
    refine ss_if (b := false) (t_is (tg "part") (by rw [dTag] <;> decide +kernel)) (fun z => (nomatch z)) (fun _ => ss_next ?_)
    refine ss_if (b := false) (t_is (tg "turn") (by rw [dTag] <;> decide +kernel)) (fun z => (nomatch z)) (fun _ => ss_next ?_)
    exact ss_if (b := true) (t_is (tg "hold") (by rw [dTag] <;> decide +kernel)) (fun _ => ss_assoc (ss_retP (e_tup (ds := [.str "hold", dIs l]) (ad_cons e_str (ad_cons (ll (j := 1) rfl) ad_nil)) (by simp)))) (fun z => (nomatch z))
  | draw h lo hi =>
    refine ss_if (b := false) (t_is (tg "set") (by rw [dTag] <;> decide +kernel)) (fun z => (nomatch z)) (fun _ => ss_next ?_)
    refine ss_if (b := false) (t_is (tg "part") (by rw [dTag] <;> decide +kernel)) (fun z => (nomatch z)) (fun _ => ss_next ?_)
    refine ss_if (b := false) (t_is (tg "turn") (by rw [dTag] <;> decide +kernel)) (fun z => (nomatch z)) (fun _ => ss_next ?_)
    refine ss_if (b := false) (t_is (tg "hold") (by rw [dTag] <;> decide +kernel)) (fun z => (nomatch z)) (fun _ => ss_next ?_)
    exact ss_retP (e_noL (e_var rfl) hL rfl)
  | call n g0 g1 t0 t1 =>
    refine ss_if (b := false) (t_is (tg "set") (by rw [dTag] <;> decide +kernel)) (fun z => (nomatch z)) (fun _ => ss_next ?_)
    refine ss_if (b := false) (t_is (tg "part") (by rw [dTag] <;> decide +kernel)) (fun z => (nomatch z)) (fun _ => ss_next ?_)
    refine ss_if (b := false) (t_is (tg "turn") (by rw [dTag] <;> decide +kernel)) (fun z => (nomatch z)) (fun _ => ss_next ?_)
    refine ss_if (b := false) (t_is (tg "hold") (by rw [dTag] <;> decide +kernel)) (fun z => (nomatch z)) (fun _ => ss_next ?_)
    exact ss_retP (e_noL (e_var rfl) hL rfl)

/-! ### _law_cell_at -/
-- needs: base
theorem c_law_cell_at (T : Txt K mg ca) : Cal P w K mg base 1 "_law_cell_at" ["script", "k"] (sp_law_cell_at K) := by
  refine fn_P T.d_law_cell_at sc_law_cell_at (fun _ => rfl) fun f cdv A outer s H E hr => ⟨_, (pss_cons (ps_if (pt_cmpR op_lt (pv 1) (pe_callB (kLen K) (by rfl) T.z_len PySem.boot_len (pa_cons (pv 0) pa_nil)) (nomark _))
    (pss_cons (ps_ret (pe_ix (kIxL K) (pv 0) (pv 1) (fun _ _ => rfl)))
    pss_nil) pss_nil)
    (pss_cons (ps_ret pe_int)
    pss_nil)), ?_⟩
  rintro ⟨ns, k⟩ F hF hc
  try dsimp only [L2.cxOf]
  have hc : 0 ≤ k := hc
  refine ss_if (t_test (e_op (e_var rfl) (e_cb (a_cons (e_var rfl) a_nil) c_lenScr) r_B0)) (fun h => ?_) (fun h => ?_)
  · have h : k < (ns.length : Int) := of_decide_eq_true h
    exact ss_assoc (ss_retP (e_op (e_var rfl) (e_var rfl) (r_ixScr (atI_D hc h))))
  · have h : ¬ k < (ns.length : Int) := of_decide_eq_false h
    refine ss_next (ss_retIs e_int ?_)
    show tI 0 = tI (cellAt ns k)
    unfold cellAt
    rw [List.getD_eq_getElem?_getD, List.getElem?_eq_none (by omega)]
    rfl

/-! ### _law_mix -/
-- needs: base
theorem c_law_mix (T : Txt K mg ca) : Cal P w K mg base 1 "_law_mix" ["cell", "k", "many"] sp_law_mix := by
  refine fn_P T.d_law_mix sc_law_mix (fun _ => rfl) fun f cdv A outer s H E hr => ⟨_, (pss_cons (ps_ret (pe_op op_mod (pe_op op_fdiv (pe_op op_mod (pe_op op_mul (pe_op op_add (pe_op op_mod (pv 0) pe_int) pe_int) (pe_op op_add pe_int (pe_op op_mul pe_int (pv 1)))) pe_int) pe_int) (pv 2)))
    pss_nil), ?_⟩
  rintro ⟨c, k, m⟩ F hF hc
  try dsimp only [L2.cxOf]
  have hc : 0 < m := hc
  exact ss_retP (e_op (e_op (e_op (e_op (e_op (e_op (e_var rfl) e_int (r_I (by first | decide | omega | assumption | trivial))) e_int r_I0) (e_op e_int (e_op e_int (e_var rfl) (r_I (by first | exact .inl (by decide) | exact .inr (by decide) | exact .inl (by omega) | exact .inr (by omega)))) r_I0) (r_I (by first | exact .inl (by decide) | exact .inr (by decide) | exact .inl (by omega) | exact .inr (by omega)))) e_int (r_I (by first | decide | omega | assumption | trivial))) e_int (r_I ⟨(by first | decide | omega | assumption | trivial), (by first | decide | omega | assumption | trivial)⟩)) (e_var rfl) (r_I (by first | decide | omega | assumption | trivial)))

/-! ### _law_whole -/
-- needs: base
theorem c_law_whole (T : Txt K mg ca) : Cal P w K mg base 1 "_law_whole" ["found"] sp_law_whole := by
  refine fn_P T.d_law_whole sc_law_whole (fun _ => rfl) fun f cdv A outer s H E hr => ⟨_, (pss_cons (ps_ret (pe_and (pe_callB (kIsi K) (by rfl) T.z_isinstance (by decide +kernel) (pa_cons (pv 0) (pa_cons (pe_bltn (v := .ty "int") (by rfl) T.z_int (by decide +kernel) rfl) pa_nil))) (pe_one (pe_not (pe_callB (kIsi K) (by rfl) T.z_isinstance (by decide +kernel) (pa_cons (pv 0) (pa_cons (pe_bltn (v := .ty "bool") (by rfl) T.z_bool (by decide +kernel) rfl) pa_nil)))))))
    pss_nil), ?_⟩
  rintro d F hF hc
  try dsimp only [L2.cxOf]
  refine ss_retIs (e_and (e_isi (e_var rfl) kit_int) (fun _ => (e_not (e_isi (e_var rfl) kit_bool)))) ?_
  cases d <;> rfl

/-! ### _law_due -/
-- needs: craft
theorem c_law_due (T : Txt K mg ca) : Cal P w K mg base 1 "_law_due" ["parts", "place"] sp_law_due8 := by
  refine fn_V T.d_law_due sc_law_due (fun _ => rfl) fun f cdv A outer s H E hr => ⟨_, (pss_cons (ps_if (pt_cmpR op_lt (pv 1) (pe_callB (kLen K) (by rfl) T.z_len PySem.boot_len (pa_cons (pe_ix (kIxL K) (pv 0) pe_int (fun _ _ => rfl)) pa_nil)) (nomark _))
    (pss_cons (ps_ret (pe_lc (own := [("line", 3)]) (g := (gName 3)) (tt := tYes) rfl sc_law_due.nd (kpList K (pe_ix (kIxL K) (pe_ix (kIxL K) (pv 0) pe_int (fun _ _ => rfl)) (pv 1) (fun _ _ => rfl))) (blkOk_by (N := n_law_due) (sc := defScope s_law_due) (by decide +kernel)) (fun _ _ _ _ _ => (pg_name (i := 3) sc_law_due.nd rfl (.inl rfl))) (fun _ _ _ _ _ => pts_nil) (fun _ _ _ _ _ => (pe_callTy (kList K) (by rfl) T.z_list (by decide +kernel) (pa_cons (pv 3) pa_nil)))))
    pss_nil) pss_nil)
    (pss_cons (ps_set (i := 2) sc_law_due.nd rfl (.inl rfl) (pe_lst pa_nil))
    (pss_cons (ps_for PassesOwn.never rfl (kpList K (pe_ix (kIxL K) (pv 0) pe_int (fun _ _ => rfl))) (pg_name (i := 3) sc_law_due.nd rfl (.inl rfl))
    (pss_cons (ps_expr (kBM K (pe_bm PySem.F.plainAttrs_list PySem.F.slot_list_append PySem.F.type_list_append mt_append (pv 2) (pa_cons (pe_lst (pa_cons (pe_ix (kIxL K) (pv 3) pe_int (fun _ _ => rfl)) (pa_cons (pe_ix (kIxL K) (pv 3) pe_int (fun _ _ => rfl)) (pa_cons (pe_ix (kIxL K) (pv 3) pe_int (fun _ _ => rfl)) (pa_cons pe_int (pa_cons pe_int (pa_cons (pe_ix (kIxL K) (pv 3) pe_int (fun _ _ => rfl)) (pa_cons (pe_ix (kIxL K) (pv 3) pe_int (fun _ _ => rfl)) (pa_cons pe_int (pa_cons pe_int pa_nil)))))))))) pa_nil))))
    pss_nil))
    (pss_cons (ps_ret (pv 2))
    pss_nil)))), ?_⟩
  rintro ⟨c, place⟩ F L hF hL ⟨sm, hn, h9⟩
  have sm : CraftSm c := sm
  have hn : c.notes.length = c.deeds.length := hn
  have h9 : Lines9 c.leaves := h9
  have pt : ∀ {C : List Cell} {Γ : List Sl} {j : Nat} {d : PyData}, HasR C L → Γ[0]? = some (some (tOv L (tLs (dParts4 c)))) → (dParts4 c)[j]? = some d → SE true (tOp (rIxL K) (tVar 0) (tC (.int (j : Int)))) Γ C (tOv L (tD d)) := fun hr h1 h2 => e_ixOv (e_var h1) hr e_int (atI_nat h2)
  refine ss_if (b := decide (place < c.deeds.length)) (t_is (t_testV (e_op (e_vv rfl hasRo) (e_cb (a_cons (e_ov (pt (j := 2) hasRo rfl rfl) hasRo) a_nil) c_lenL) r_B0)) ?_) (fun h => ?_) (fun h => ?_)
  · rw [List.length_map]
    by_cases z : place < c.deeds.length
    · rw [decide_eq_true z]; exact decide_eq_true (by show (place : Int) < _; omega)
    · rw [decide_eq_false z]; exact decide_eq_false (by show ¬ (place : Int) < _; omega)
  · have h : place < c.deeds.length := of_decide_eq_true h
    have hg : c.notes[place]? = some (c.notes.getD place []) := by rw [List.getD_eq_getElem?_getD, List.getElem?_eq_getElem (by omega)]; rfl
    have hl := sm.ts _ (List.mem_of_getElem? hg)
    refine ss_assoc (ss_retIs (e_ofO (o_lc0z (xs := c.notes.getD place []) (ty := fun l => tOv L (tIs l)) dIs (w_mapz (w_ov (e_ixOv (pt (j := 3) hasRo rfl rfl) hasRo (e_noL (e_var rfl) hL rfl) (atI_nat (by rw [List.getElem?_map, hg]; rfl))) hasRo) rfl (fun _ => rfl)) hasRo (by omega) fun i l hl => ⟨_, _, g_name, by simp, e_ofO (o_cb (a_cons (e_vv rfl hasRo) a_nil) (c_listA (atvs_ints l)))⟩)) ?_)
    unfold lawDue
    rw [if_pos h]
  · have h : ¬ place < c.deeds.length := of_decide_eq_false h
    refine ss_next (ss_setO (o_lst ad_nil (by decide)) fun p _ hp => ?_)
    refine ss_forz (γ := Unit) (w_mapz (ys := c.leaves) (f := dIs) (ty' := fun l => tOv L (tIs l)) (w_ov (pt (j := 1) hasRo.tail rfl rfl) hasRo.tail) rfl (fun _ => rfl)) (fun _ _ => True) (fun _ _ => [some (tOv L (tLs (dParts4 c))), some (tOv L (tI (place : Int))), some (tV (.ref p)), none]) (fun i _ => [cL p (((c.leaves.take i).map lawLeaf).map dIs), (cReg L).ro]) () trivial (by repeat (first | exact trivial | refine ⟨.inr rfl, ?_⟩ | refine ⟨.inl rfl, ?_⟩)) rfl (fun _ _ _ _ k => hasRo.tail _ _ k) ?_ ?_
    · rintro i _ l hi _
      have l9 := (h9 l (List.mem_of_getElem? hi)).1
      refine ⟨_, _, g_name, ?_⟩
      have it : ∀ {j : Nat}, j < 9 → SE true (tOp (rIxL K) (tVar 3) (tC (.int (j : Int)))) [some (tOv L (tLs (dParts4 c))), some (tOv L (tI (place : Int))), some (tV (.ref p)), some (tOv L (tIs l))] [cL p (((c.leaves.take i).map lawLeaf).map dIs), (cReg L).ro] (tI (l.getD j 0)) := fun {j} hj => e_atom (e_op (e_vv rfl hasRo.tail) e_int (r_ixL (atI_map PyData.int (atI_nat (get_of_getD (by omega)))))) atom_int
      refine ss_app rfl (e_lst (ds := (lawLeaf l).map .int) (ad_cons (it (j := 0) (by decide)) (ad_cons (it (j := 7) (by decide)) (ad_cons (it (j := 8) (by decide)) (ad_cons e_int (ad_cons e_int (ad_cons (it (j := 5) (by decide)) (ad_cons (it (j := 6) (by decide)) (ad_cons e_int (ad_cons e_int ad_nil))))))))) (by simp [lawLeaf])) (by rw [List.length_map, List.length_map, List.length_take]; have := sm.l; omega) ?_ rfl
      refine ss_nil fun σ H S s => ⟨(), trivial, ?_⟩
      rw [List.take_add_one, hi, List.map_append, List.map_append]
      exact s.weak (by repeat (first | exact trivial | refine ⟨.inr rfl, ?_⟩ | refine ⟨.inl rfl, ?_⟩))
    · intro _ _
      rw [List.take_length]
      refine ss_settle 2 rfl hp (ss_retIs (e_var rfl) ?_)
      unfold lawDue
      rw [if_neg h]

/-! ### turned -/
-- needs: base
theorem c_turned (T : Txt K mg ca) : Cal P w K mg base 2 "turned" ["line", "eight"] sp_turned := by
  refine fn_O T.d_turned sc_turned (fun _ => rfl) fun f cdv A outer s H E hr => ⟨_, (pss_cons (ps_ret (pc (c_summed T) hr (pa_cons (pe_op op_cat (pe_lst (pa_cons (pc (c_steady T) hr (pa_cons (pe_ix (kIxL K) (pv 0) pe_int (fun _ _ => rfl)) pa_nil)) pa_nil)) (pe_callTy (kList K) (by rfl) T.z_list (by decide +kernel) (pa_cons (pv 1) pa_nil))) (pa_cons (pe_op op_cat (pe_lst (pa_cons pe_int pa_nil)) (pe_slice (kSlL K) (pv 0) (po_some pe_int) po_none)) pa_nil))))
    pss_nil), ?_⟩
  rintro ⟨line, eight⟩ F hF ⟨h9, hb, h8⟩
  obtain ⟨h, tl, rfl⟩ : ∃ h tl, line = h :: tl := by
    cases line with
    | nil => cases h9
    | cons h tl => exact ⟨h, tl, rfl⟩
  have h9 : (h :: tl).length = 9 := h9
  have hb : Sm tl := hb
  have h8 : eight.length ≤ 1000 := h8
  have hl : tl.length = 8 := by simpa using h9
  refine ss_retNew (O_summed (lines := steadyL h :: eight) (ws := 1 :: tl) (e_ofO (o_cat (ds := [dIs (steadyL h)]) (e_lst (ad_cons (e_ofO (O_steady (e_op (e_var rfl) e_int (r_ixL atI_0)))) ad_nil) (by simp)) (e_ofO (o_cb (a_cons (e_var rfl) a_nil) c_listL)) (by simp; omega))) (e_is (e_ofO (o_cat (ds := [.int 1]) (e_lst (ad_cons e_int ad_nil) (by simp)) (e_ofO (o_sl (e_var rfl) p_int p_none)) (by rw [cutD_tail]; simp; omega))) (by rw [cutD_tail]; rfl)) (.inl ?_))
  intro x hx
  rcases List.mem_cons.mp hx with e | hx
  · subst e; decide
  · exact hb x hx

/-! ### Craft.__init__ -/
-- needs: craft
theorem c_Craft___init (T : Txt K mg ca) : CalI P w K mg base 2 ca.Craft "Craft" ["self", "needs", "leaves", "deeds", "notes"] (sp_Craft ca) := by
  refine fn_I T.m_Craft sc_Craft___init (fun _ => rfl) fun f cdv A outer s H E hr => ⟨_, (pss_cons (kSetF K (pv 0) (pc (c_copied T) hr (pa_cons (pv 1) pa_nil)))
    (pss_cons (kSetF K (pv 0) (pc (c_copied T) hr (pa_cons (pv 2) pa_nil)))
    (pss_cons (kSetF K (pv 0) (pe_lc (own := [("deed", 5)]) (g := (gName 5)) (tt := tYes) rfl sc_Craft___init.nd (kpList K (pv 3)) (blkOk_by (N := n_Craft___init) (sc := defScope s_Craft___init) (by decide +kernel)) (fun _ _ _ _ _ => (pg_name (i := 5) sc_Craft___init.nd rfl (.inl rfl))) (fun _ _ _ _ _ => pts_nil) (fun _ _ _ _ _ => (pc (c_fresh T) hr (pa_cons (pv 5) pa_nil)))))
    (pss_cons (kSetF K (pv 0) (pe_lc (own := [("lines", 6)]) (g := (gName 6)) (tt := tYes) rfl sc_Craft___init.nd (kpList K (pv 4)) (blkOk_by (N := n_Craft___init) (sc := defScope s_Craft___init) (by decide +kernel)) (fun _ _ _ _ _ => (pg_name (i := 6) sc_Craft___init.nd rfl (.inl rfl))) (fun _ _ _ _ _ => pts_nil) (fun _ _ _ _ _ => (pc (c_copied T) hr (pa_cons (pv 6) pa_nil)))))
    pss_nil)))), ?_⟩
  rintro c F L x hL sm
  have sm : CraftSm c := sm
  refine ss_fldN (E_copied (ls := c.needs) (e_vv rfl hasRo.tail) sm.n) (e_var rfl) T.k_Craft T.n_Craft_needs (by decide +kernel) (by decide) ?_
  refine ss_fldN (E_copied (ls := c.leaves) (e_vv rfl hasRo.tail) sm.l) (e_var rfl) T.k_Craft T.n_Craft_leaves (by decide +kernel) (by decide) ?_
  refine ss_fldN (T := tD (dDeeds c.deeds)) (e_ofO (o_lc0z (xs := c.deeds) (ty := fun d => tOv L (tD (dDeed d))) dDeed (w_mapz (w_ov (e_var rfl) hasRo.tail) rfl (fun _ => rfl)) hasRo.tail (by have := sm.d; omega) fun i d hd => ⟨_, _, g_name, by simp, E_fresh (e_vv rfl hasRo.tail)⟩)) (e_var rfl) T.k_Craft T.n_Craft_deeds (by decide +kernel) (by decide) ?_
  refine ss_fldN (T := tD (dNotes c.notes)) (e_ofO (o_lc0z (xs := c.notes) (ty := fun d => tOv L (tLl d)) dLs (w_mapz (w_ov (e_var rfl) hasRo.tail) rfl (fun _ => rfl)) hasRo.tail (by have := sm.t; omega) fun i d hd => ⟨_, _, g_name, by simp, E_copied (e_vv rfl hasRo.tail) (sm.ts d (List.mem_of_getElem? hd))⟩)) (e_var rfl) T.k_Craft T.n_Craft_notes (by decide +kernel) (by decide) ?_
  exact ss_nil fun σ H S s => ⟨s.g, s.cl.left (A := [_])⟩

/-! ### _law_number -/
-- needs: base
theorem c_law_number (T : Txt K mg ca) : Cal P w K mg base 2 "_law_number" ["cell", "k"] sp_law_number := by
  refine fn_P T.d_law_number sc_law_number (fun _ => rfl) fun f cdv A outer s H E hr => ⟨_, (pss_cons (ps_set (i := 2) sc_law_number.nd rfl (.inl rfl) (pc (c_law_mix T) hr (pa_cons (pv 0) (pa_cons (pv 1) (pa_cons pe_int pa_nil)))))
    (pss_cons (ps_if (pt_cmpR op_eq (pv 2) pe_int (nomark _))
    (pss_cons (ps_ret (pe_op op_sub (pe_op op_mod (pv 0) (pe_op op_add (pe_op op_mul pe_int (pe_op op_pow pe_int pe_int)) pe_int)) (pe_op op_pow pe_int pe_int)))
    pss_nil) pss_nil)
    (pss_cons (ps_if (pt_cmpR op_eq (pv 2) pe_int (nomark _))
    (pss_cons (ps_ret (pe_ix (kIxL K) (pe_lst (pa_cons (pe_op op_pow pe_int pe_int) (pa_cons (pe_un un_neg (pe_op op_pow pe_int pe_int)) (pa_cons pe_int (pa_cons (pe_un un_neg pe_int) pa_nil))))) (pc (c_law_mix T) hr (pa_cons (pv 0) (pa_cons (pe_op op_add (pv 1) pe_int) (pa_cons pe_int pa_nil)))) (fun _ _ => rfl)))
    pss_nil) pss_nil)
    (pss_cons (ps_ret (pe_op op_sub (pc (c_law_mix T) hr (pa_cons (pv 0) (pa_cons (pe_op op_add (pv 1) pe_int) (pa_cons pe_int pa_nil)))) pe_int))
    pss_nil)))), ?_⟩
  rintro ⟨c, k⟩ F hF hc
  try dsimp only [L2.cxOf]
  refine ss_set (E_law_mix (e_var rfl) (e_var rfl) e_int (by first | decide | omega | assumption | trivial)) ?_
  refine ss_if (t_test (e_op (e_var rfl) e_int r_eqI)) (fun h => ?_) (fun h => ?_)
  · have h : mix c k 9 = 0 := of_decide_eq_true h
    refine ss_assoc (ss_retIs (e_op (e_op (e_var rfl) (e_op (e_op e_int (e_op e_int e_int (r_I ⟨by decide, by decide, by decide⟩)) (r_I (by first | exact .inl (by decide) | exact .inr (by decide) | exact .inl (by omega) | exact .inr (by omega)))) e_int r_I0) (r_I (by first | decide | omega | assumption | trivial))) (e_op e_int e_int (r_I ⟨by decide, by decide, by decide⟩)) r_I0) ?_)
    show _ = tI (num c k)
    unfold num
    rw [if_pos h]
    rfl
  · have h0 : ¬ mix c k 9 = 0 := of_decide_eq_false h
    refine ss_next (ss_if (t_test (e_op (e_var rfl) e_int r_eqI)) (fun h => ?_) (fun h => ?_))
    · have h : mix c k 9 = 1 := of_decide_eq_true h
      have h1 := mix_lo (c := c) (k := k + 1) (m := 4) (by decide)
      have h2 := mix_hi (c := c) (k := k + 1) (m := 4) (by decide)
      refine ss_assoc (ss_retIs (e_op (e_lst (ds := num4.map .int) (ad_cons (e_op e_int e_int (r_I ⟨by decide, by decide, by decide⟩)) (ad_cons (e_un (e_op e_int e_int (r_I ⟨by decide, by decide, by decide⟩)) r_neg) (ad_cons e_int (ad_cons (e_un e_int r_neg) ad_nil)))) (by decide)) (E_law_mix (e_var rfl) (e_op (e_var rfl) e_int r_I0) e_int (by first | decide | omega | assumption | trivial)) (r_ixL (atI_Di h1 h2))) ?_)
      show _ = tI (num c k)
      unfold num
      rw [if_neg h0, if_pos h]
    · have h : ¬ mix c k 9 = 1 := of_decide_eq_false h
      refine ss_next (ss_retIs (e_op (E_law_mix (e_var rfl) (e_op (e_var rfl) e_int r_I0) e_int (by first | decide | omega | assumption | trivial)) e_int r_I0) ?_)
      show _ = tI (num c k)
      unfold num
      rw [if_neg h0, if_neg h]

/-! ### _law_is_line -/
-- needs: base
theorem c_law_is_line (T : Txt K mg ca) : Cal P w K mg base 2 "_law_is_line" ["found"] sp_law_is_line := by
  refine fn_P T.d_law_is_line sc_law_is_line (fun _ => rfl) fun f cdv A outer s H E hr => ⟨_, (pss_cons (ps_ret (pe_and (pe_callB (kIsi K) (by rfl) T.z_isinstance (by decide +kernel) (pa_cons (pv 0) (pa_cons (pe_bltn (v := .ty "list") (by rfl) T.z_list (by decide +kernel) rfl) pa_nil))) (pe_and (pe_cmpR op_eq (pe_callB (kLen K) (by rfl) T.z_len PySem.boot_len (pa_cons (pv 0) pa_nil)) pe_int (nomark _)) (pe_one (pe_callB (kAll K rfl) (by rfl) T.z_all (by decide +kernel) (pa_cons (pe_lc (own := [("x", 1)]) (g := (gName 1)) (tt := tYes) rfl sc_law_is_line.nd (kpList K (pv 0)) (blkOk_by (N := n_law_is_line) (sc := defScope s_law_is_line) (by decide +kernel)) (fun _ _ _ _ _ => (pg_name (i := 1) sc_law_is_line.nd rfl (.inl rfl))) (fun _ _ _ _ _ => pts_nil) (fun _ _ _ _ _ => (pc (c_law_whole T) hr (pa_cons (pv 1) pa_nil)))) pa_nil))))))
    pss_nil), ?_⟩
  rintro d F hF hc
  try dsimp only [L2.cxOf]
  have hno : isList d = false → isLine d = false := by cases d <;> simp [isList, isLine]
  by_cases hd : isList d = true
  · obtain ⟨ds, rfl⟩ : ∃ ds, d = .list ds := by
      cases d with
      | list ds => exact ⟨ds, rfl⟩
      | _ => exact absurd hd (by simp [isList])
    by_cases h9 : ds.length = 9
    · refine ss_retIs (e_and (e_isi (e_var rfl) kit_list) (fun _ => e_and (e_op (e_cb (a_cons (e_var rfl) a_nil) c_lenL) e_int r_eqI) (fun _ => e_cb (a_cons (e_ofO (o_lcB isI (w_list (e_var rfl)) (by omega) fun i b hb => ⟨_, _, g_name, by simp, E_law_whole (e_var rfl) trivial⟩)) a_nil) c_all))) ?_
      simp [isList, isLine, h9]
    · refine ss_retIs (e_and (e_isi (e_var rfl) kit_list) (fun _ => e_and (b := false) (e_op (e_cb (a_cons (e_var rfl) a_nil) c_lenL) e_int r_eqI) (fun h => absurd (of_decide_eq_true h) (by omega)))) ?_
      simp [isLine, h9]
  · have hd : isList d = false := by simpa using hd
    refine ss_retIs (e_and (b := false) (e_isi (e_var rfl) kit_list) (fun h => by rw [hd] at h; cases h)) ?_
    rw [hno hd, hd]
    rfl

/-! ### due_at -/
-- needs: craft
theorem c_due_at (T : Txt K mg ca) : Cal P w K mg base 3 "due_at" ["craft", "place"] (sp_due_at ca) := by
  refine fn_V T.d_due_at sc_due_at (fun _ => rfl) fun f cdv A outer s H E hr => ⟨_, (pss_cons (ps_if (pt_cmpR op_lt (pv 1) (pe_callB (kLen K) (by rfl) T.z_len PySem.boot_len (pa_cons (kFld K (pv 0)) pa_nil)) (nomark _))
    (pss_cons (ps_ret (pc (c_copied T) hr (pa_cons (pe_ix (kIxL K) (kFld K (pv 0)) (pv 1) (fun _ _ => rfl)) pa_nil)))
    pss_nil) pss_nil)
    (pss_cons (ps_set (i := 2) sc_due_at.nd rfl (.inr rfl) (pe_lc (own := [("i", 3)]) (g := (gName 3)) (tt := tYes) rfl sc_due_at.nd (kpList K (pe_lst (pa_cons pe_int (pa_cons pe_int (pa_cons pe_int (pa_cons pe_int (pa_cons pe_int (pa_cons pe_int (pa_cons pe_int (pa_cons pe_int pa_nil)))))))))) (blkOk_by (N := n_due_at) (sc := defScope s_due_at) (by decide +kernel)) (fun _ _ _ _ _ => (pg_name (i := 3) sc_due_at.nd rfl (.inl rfl))) (fun _ _ _ _ _ => pts_nil) (fun _ _ _ _ _ => (pc (c_bare T) hr (pa_cons (pv 3) pa_nil)))))
    (pss_cons (ps_ret (pe_lc (own := [("line", 4)]) (g := (gName 4)) (tt := tYes) rfl sc_due_at.nd (kpList K (kFld K (pv 0))) (blkOk_by (N := n_due_at) (sc := defScope s_due_at) (by decide +kernel)) (fun _ _ _ _ _ => (pg_name (i := 4) sc_due_at.nd rfl (.inl rfl))) (fun _ _ _ _ _ => pts_nil) (fun _ _ _ _ _ => (pc (c_turned T) hr (pa_cons (pv 4) (pa_cons (pv 2) pa_nil))))))
    pss_nil))), ?_⟩
  rintro ⟨c, place⟩ F L hF hL ⟨sm, hn, h9⟩
  have sm : CraftSm c := sm
  have hn : c.notes.length = c.deeds.length := hn
  have h9 : Lines9 c.leaves := h9
  have cr : ∀ {i : Nat} {f : Str} {T' : Ty}, cNames[i]? = some f → (cTys c)[i]? = some T' → NoAttr K ca.Craft f → ∀ {Γ : List Sl}, Γ[0]? = some (some (tOv L (tCraft ca c))) → SE true (tFld K (tVar 0) f) Γ [(cReg L).ro] (tOv L T') := fun h1 h2 h3 _ h4 => e_fldOv (e_var h4) hasRo T.k_Craft h3 h1 h2 cNames_nd
  refine ss_if (b := decide (place < c.deeds.length)) (t_is (t_testV (e_op (e_vv rfl hasRo) (e_cb (a_cons (e_ov (cr (i := 2) rfl rfl T.n_Craft_deeds rfl) hasRo) a_nil) c_lenL) r_B0)) ?_) (fun h => ?_) (fun h => ?_)
  · rw [List.length_map]
    by_cases z : place < c.deeds.length
    · rw [decide_eq_true z]; exact decide_eq_true (by show (place : Int) < _; omega)
    · rw [decide_eq_false z]; exact decide_eq_false (by show ¬ (place : Int) < _; omega)
  · have h : place < c.deeds.length := of_decide_eq_true h
    have hg : c.notes[place]? = some (c.notes.getD place []) := by rw [List.getD_eq_getElem?_getD, List.getElem?_eq_getElem (by omega)]; rfl
    refine ss_assoc (ss_retIs (E_copied (ls := c.notes.getD place []) (e_op (e_ov (cr (i := 3) rfl rfl T.n_Craft_notes rfl) hasRo) (e_vv rfl hasRo) (r_ixL (atI_nat (by rw [List.getElem?_map, hg]; rfl)))) (sm.ts _ (List.mem_of_getElem? hg))) ?_)
    unfold dueL
    rw [if_pos h]
  · have h : ¬ place < c.deeds.length := of_decide_eq_false h
    refine ss_next (ss_set (T := tLl leftEight) (e_ofO (o_lc0 (xs := [0, 1, 2, 3, 4, 5, 0, 1]) (ty := tI) (fun i => dIs (bareL i)) (w_map (w_list (e_lst (ad_cons e_int (ad_cons e_int (ad_cons e_int (ad_cons e_int (ad_cons e_int (ad_cons e_int (ad_cons e_int (ad_cons e_int ad_nil)))))))) (by simp))) rfl (fun _ => rfl)) (by decide) fun i b hb => ⟨_, _, g_name, by simp, e_ofO (O_bare (e_var rfl))⟩)) ?_)
    refine ss_retIs (e_ofO (o_lc0z (xs := c.leaves) (ty := fun l => tOv L (tIs l)) (fun l => dIs (turnedL l leftEight)) (w_mapz (w_ov (cr (i := 1) rfl rfl T.n_Craft_leaves rfl) hasRo) rfl (fun _ => rfl)) hasRo (by have := sm.l; omega) fun i l hl => ⟨_, _, g_name, by simp, e_ofO (O_turnedV (e_vv rfl hasRo) (e_var rfl) ⟨(h9 l (List.mem_of_getElem? hl)).1, (h9 l (List.mem_of_getElem? hl)).2, by decide⟩)⟩)) ?_
    unfold dueL
    rw [if_neg h]
    show tLs _ = tLs (List.map dIs (c.leaves.map _))
    rw [List.map_map]
    rfl

/-! ### _law_line_by -/
-- needs: rows
theorem c_law_line_by (T : Txt K mg ca) : Cal P w K mg base 3 "_law_line_by" ["cell", "zero"] sp_law_line_by := by
  refine fn_O T.d_law_line_by sc_law_line_by (fun _ => rfl) fun f cdv A outer s H E hr => ⟨_, (pss_cons (ps_setLc (i := 2) (own := [("k", 3)]) (g := (gName 3)) (tt := tYes) rfl sc_law_line_by.nd rfl rfl (sw_true rfl rfl rfl (by decide +kernel)) (pi_range1 rfl T.z_range (pa_cons pe_int pa_nil)) (blkOk_by (N := n_law_line_by) (sc := defScope s_law_line_by) (by decide +kernel)) (fun _ _ _ _ _ => (pg_name (i := 3) sc_law_line_by.nd rfl (.inl rfl))) (fun _ _ _ _ _ => pts_nil) (fun _ _ _ _ _ => (pc (c_law_number T) hr (pa_cons (pv 0) (pa_cons (pe_op op_mul pe_int (pv 3)) pa_nil)))))
    (pss_cons (ps_for PassesOwn.never rfl (pi_range1 rfl T.z_range (pa_cons pe_int pa_nil)) (pg_name (i := 3) sc_law_line_by.nd rfl (.inl rfl))
    (pss_cons (ps_if (PW.pt (pw_or (pt_cmpR (kIn K) (pv 3) (pv 1) rfl) (pw_or1 (pt_cmpR op_eq (pc (c_law_mix T) hr (pa_cons (pv 0) (pa_cons (pe_op op_add pe_int (pv 3)) (pa_cons pe_int pa_nil)))) pe_int (nomark _)))))
    (pss_cons (ps_asg pe_int (pg_sub (pv 2) (pe_op op_add (pv 3) pe_int) set_list))
    pss_nil) pss_nil)
    pss_nil))
    (pss_cons (ps_ret (pv 2))
    pss_nil))), ?_⟩
  rintro ⟨c, zero⟩ F hF _
  refine ss_setO (o_lcI (fun k : Nat => num c (5 * (k : Int))) (w_range1 (a_cons e_int a_nil) (by decide) (by decide)) (by simp) fun i k hk => ⟨_, _, g_name, by simp, (E_law_number (e_var rfl) (e_op e_int (e_var rfl) (r_I (by first | exact .inl (by decide) | exact .inr (by decide) | exact .inl (by omega) | exact .inr (by omega)))) (by first | decide | omega | assumption | trivial))⟩) fun p _ hp => ?_
  rw [show (List.range (Int.toNat 9)).map (fun k : Nat => num c (5 * (k : Int))) = lby c zero 0 from lby_0 c zero]
  refine ss_for (γ := Unit) (w_range1 (a_cons e_int a_nil) (by decide) (by decide)) (fun _ _ => True) (fun _ _ => [some (tI c), some (tIs zero), some (tV (.ref p)), none]) (fun i _ => [cL p ((lby c zero i).map .int)]) () trivial
    ⟨.inr rfl, .inr rfl, .inr rfl, .inl rfl, trivial⟩ rfl ?_ fun _ _ => ss_retOwn rfl hp
  rintro i _ k hi _
  refine ⟨_, _, g_name, ?_⟩
  obtain rfl := range_at hi
  have hk : k < 8 := by have := (List.getElem?_eq_some_iff.mp hi).1; simpa using this
  refine ss_ifJ [some (tI c), some (tIs zero), some (tV (.ref p)), none] [cL p ((lby c zero (k + 1)).map .int)] (t_or (t_test (e_op (e_var rfl) (e_var rfl) r_inI)) (fun _ => (t_test (e_op (E_law_mix (e_var rfl) (e_op e_int (e_var rfl) r_I0) e_int (by first | decide | omega | assumption | trivial)) e_int r_eqI)))) (fun h => ?_) (fun h => ?_) (ss_nil fun σ H S s => ⟨(), trivial, s⟩)
  · have h : (k : Int) ∈ zero ∨ mix c (60 + (k : Int)) 3 = 0 := by simpa using h
    refine ss_setItem rfl e_int (e_op (e_var rfl) e_int r_I0) (n := k + 1) (by rw [List.length_map, lby_len, ixN_of (by omega) (by omega)]; rfl) ?_
    rw [← List.map_set, lby_set hk h]
    exact ss_nil fun σ H S s => s.weak ⟨.inr rfl, .inr rfl, .inr rfl, .inl rfl, trivial⟩
  · have h : ¬ ((k : Int) ∈ zero ∨ mix c (60 + (k : Int)) 3 = 0) := by simpa using h
    rw [← lby_keep hk h]
    exact ss_nil fun σ H S s => s.weak ⟨.inr rfl, .inr rfl, .inr rfl, .inl rfl, trivial⟩

/-! ### _law_alike -/
-- needs: craft
theorem c_law_alike (T : Txt K mg ca) : Cal P w K mg base 3 "_law_alike" ["found", "due"] sp_law_alike8 := by
  refine fn_P T.d_law_alike sc_law_alike (fun _ => rfl) fun f cdv A outer s H E hr => ⟨_, (pss_cons (ps_ret (pe_and (pe_callB (kIsi K) (by rfl) T.z_isinstance (by decide +kernel) (pa_cons (pv 0) (pa_cons (pe_bltn (v := .ty "list") (by rfl) T.z_list (by decide +kernel) rfl) pa_nil))) (pe_and (pe_callB (kAll K rfl) (by rfl) T.z_all (by decide +kernel) (pa_cons (pe_lc (own := [("line", 2)]) (g := (gName 2)) (tt := tYes) rfl sc_law_alike.nd (kpList K (pv 0)) (blkOk_by (N := n_law_alike) (sc := defScope s_law_alike) (by decide +kernel)) (fun _ _ _ _ _ => (pg_name (i := 2) sc_law_alike.nd rfl (.inl rfl))) (fun _ _ _ _ _ => pts_nil) (fun _ _ _ _ _ => (pc (c_law_is_line T) hr (pa_cons (pv 2) pa_nil)))) pa_nil)) (pe_one (pe_cmpR (kEq K hr.units) (pv 0) (pv 1) (nomark _))))))
    pss_nil), ?_⟩
  rintro ls F hF ⟨h9, hl⟩
  have h9 : ∀ l ∈ ls, l.length = 9 := h9
  have hl : ls.length ≤ 1000 := hl
  refine ss_retIs (e_and (e_isi (e_var rfl) kit_list) (fun _ => e_and (e_cb (a_cons (e_ofO (o_lcB (xs := ls) (ty := tIs) (fun l => isLine (dIs l)) (w_map (w_list (e_var rfl)) rfl (fun _ => rfl)) (by omega) fun i b hb => ⟨_, _, g_name, by simp, (E_law_is_line (e_var rfl) (by first | decide | omega | assumption | trivial))⟩)) a_nil) c_all) (fun _ => e_op (e_var rfl) (e_var rfl) (r_eqD (okd_lls ls).shaped (okd_lls ls).shaped)))) ?_
  rw [eqv_same (okd_lls ls)]
  have : (ls.map fun l => isLine (dIs l)).all id = true := by
    rw [List.all_map]
    exact List.all_eq_true.mpr fun l hm => isLine_ints (h9 l hm)
  rw [this]
  rfl

/-! ### _law_deed_by -/
-- needs: craft
theorem c_law_deed_by (T : Txt K mg ca) : Cal P w K mg base 4 "_law_deed_by" ["cell", "count"] sp_law_deed_by := by
  refine fn_P T.d_law_deed_by sc_law_deed_by (fun _ => rfl) fun f cdv A outer s H E hr => ⟨_, (pss_cons (ps_set (i := 2) sc_law_deed_by.nd rfl (.inl rfl) (pc (c_law_line_by T) hr (pa_cons (pe_op op_fdiv (pv 0) pe_int) (pa_cons (pe_lst (pa_cons pe_int (pa_cons pe_int pa_nil))) pa_nil))))
    (pss_cons (ps_set (i := 3) sc_law_deed_by.nd rfl (.inl rfl) (pc (c_law_mix T) hr (pa_cons (pv 0) (pa_cons pe_int (pa_cons pe_int pa_nil)))))
    (pss_cons (ps_set (i := 4) sc_law_deed_by.nd rfl (.inl rfl) (pc (c_law_mix T) hr (pa_cons (pv 0) (pa_cons pe_int (pa_cons pe_int pa_nil)))))
    (pss_cons (ps_if (pt_cmpR op_eq (pv 4) pe_int (nomark _))
    (pss_cons (ps_ret (pe_tup (pa_cons pe_str (pa_cons (pv 3) (pa_cons (pv 2) pa_nil)))))
    pss_nil) pss_nil)
    (pss_cons (ps_if (pt_cmpR op_eq (pv 4) pe_int (nomark _))
    (pss_cons (ps_ret (pe_tup (pa_cons pe_str (pa_cons (pv 3) (pa_cons (pv 2) (pa_cons (pe_ix (kIxL K) (pe_lst (pa_cons pe_int (pa_cons pe_int (pa_cons (pe_op op_add pe_int (pc (c_law_mix T) hr (pa_cons (pv 0) (pa_cons pe_int (pa_cons pe_int pa_nil))))) (pa_cons pe_int pa_nil))))) (pc (c_law_mix T) hr (pa_cons (pv 0) (pa_cons pe_int (pa_cons pe_int pa_nil)))) (fun _ _ => rfl)) pa_nil))))))
    pss_nil) pss_nil)
    (pss_cons (ps_if (pt_cmpR op_eq (pv 4) pe_int (nomark _))
    (pss_cons (ps_set (i := 5) sc_law_deed_by.nd rfl (.inl rfl) (pc (c_law_number T) hr (pa_cons (pe_op op_fdiv (pv 0) pe_int) (pa_cons pe_int pa_nil))))
    (pss_cons (ps_ret (pe_tup (pa_cons pe_str (pa_cons (pv 3) (pa_cons (pv 5) (pa_cons (pe_callB (call_max2 rfl) (by rfl) T.z_max (by decide +kernel) (pa_cons (pv 5) (pa_cons (pc (c_law_number T) hr (pa_cons (pe_op op_fdiv (pv 0) pe_int) (pa_cons pe_int pa_nil))) pa_nil))) pa_nil))))))
    pss_nil)) pss_nil)
    (pss_cons (ps_if (pt_cmpR op_eq (pv 4) pe_int (nomark _))
    (pss_cons (ps_ret (pe_tup (pa_cons pe_str (pa_cons (pv 2) (pa_cons (pc (c_law_mix T) hr (pa_cons (pv 0) (pa_cons pe_int (pa_cons (pe_op op_add (pv 1) pe_int) pa_nil)))) pa_nil)))))
    pss_nil) pss_nil)
    (pss_cons (ps_if (pt_cmpR op_eq (pv 4) pe_int (nomark _))
    (pss_cons (ps_ret (pe_tup (pa_cons pe_str (pa_cons (pv 2) pa_nil))))
    pss_nil) pss_nil)
    (pss_cons (ps_set (i := 6) sc_law_deed_by.nd rfl (.inl rfl) (pe_tup (pa_cons (pc (c_law_mix T) hr (pa_cons (pv 0) (pa_cons pe_int (pa_cons pe_int pa_nil)))) (pa_cons (pc (c_law_mix T) hr (pa_cons (pv 0) (pa_cons pe_int (pa_cons pe_int pa_nil)))) pa_nil))))
    (pss_cons (ps_ret (pe_tup (pa_cons pe_str (pa_cons (pc (c_law_mix T) hr (pa_cons (pv 0) (pa_cons pe_int (pa_cons pe_int pa_nil)))) (pa_cons (pv 6) (pa_cons (pe_tup (pa_cons (pv 3) (pa_cons (pe_op op_mod (pe_op op_add (pe_op op_add (pv 3) pe_int) (pc (c_law_mix T) hr (pa_cons (pv 0) (pa_cons pe_int (pa_cons pe_int pa_nil))))) pe_int) pa_nil))) pa_nil))))))
    pss_nil)))))))))), ?_⟩
  rintro ⟨cell, count⟩ F hF ⟨h0, h1⟩
  have h0 : 0 ≤ count := h0
  have h1 : count ≤ 1000 := h1
  show SS F _ _ _ (retP F (tD (dDeed (deedBy cell count))))
  refine ss_set (e_ofO (O_law_line_by (zero := [6, 7]) (e_op (e_var rfl) e_int (r_I ⟨(by first | decide | omega | assumption | trivial), (by first | decide | omega | assumption | trivial)⟩)) (e_lst (ad_cons e_int (ad_cons e_int ad_nil)) (by simp)))) ?_
  refine ss_set (E_law_mix (e_var rfl) e_int e_int (by first | decide | omega | assumption | trivial)) ?_
  refine ss_set (E_law_mix (e_var rfl) e_int e_int (by first | decide | omega | assumption | trivial)) ?_
  unfold deedBy
  dsimp only
  generalize lineBy (cell / 11) [6, 7] = line
  generalize mix cell 3 4 = hand
  generalize mix cell 4 6 = kind
  refine ss_if (t_test (e_op (e_var rfl) e_int r_eqI)) (fun h => ?_) (fun h => ?_)
  · rw [if_pos (of_decide_eq_true h)]
    exact ss_assoc (ss_retP (e_tup (ds := dParts (.set hand line)) (ad_cons e_str (ad_cons (e_var rfl) (ad_cons (e_var rfl) ad_nil))) (by simp [dParts])))
  rw [if_neg (of_decide_eq_false h)]
  refine ss_next (ss_if (t_test (e_op (e_var rfl) e_int r_eqI)) (fun h => ?_) (fun h => ?_))
  · rw [if_pos (of_decide_eq_true h)]
    have b := mix_lo (c := cell) (k := 6) (m := 4) (by decide)
    have b' := mix_hi (c := cell) (k := 6) (m := 4) (by decide)
    refine ss_assoc (ss_retP (e_tup (ds := dParts (.part hand line _)) (ad_cons e_str (ad_cons (e_var rfl) (ad_cons (e_var rfl) (ad_cons (e_op (e_lst (ds := ([1, 1000, 1 + mix cell 5 1000, 2] : List Int).map .int) (ad_cons e_int (ad_cons e_int (ad_cons (e_op e_int (E_law_mix (e_var rfl) e_int e_int (by first | decide | omega | assumption | trivial)) r_I0) (ad_cons e_int ad_nil)))) (by simp)) (E_law_mix (e_var rfl) e_int e_int (by first | decide | omega | assumption | trivial)) (r_ixL (atI_Di b (by show _ < ((4 : Nat) : Int); omega)))) ad_nil)))) (by simp [dParts])))
  rw [if_neg (of_decide_eq_false h)]
  refine ss_next (ss_if (t_test (e_op (e_var rfl) e_int r_eqI)) (fun h => ?_) (fun h => ?_))
  · rw [if_pos (of_decide_eq_true h)]
    refine ss_assoc (ss_set (E_law_number (e_op (e_var rfl) e_int (r_I ⟨(by first | decide | omega | assumption | trivial), (by first | decide | omega | assumption | trivial)⟩)) e_int (by first | decide | omega | assumption | trivial)) ?_)
    exact ss_assoc (ss_retP (e_tup (ds := dParts (.draw hand _ _)) (ad_cons e_str (ad_cons (e_var rfl) (ad_cons (e_var rfl) (ad_cons (e_cb (a_cons (e_var rfl) (a_cons (E_law_number (e_op (e_var rfl) e_int (r_I ⟨(by first | decide | omega | assumption | trivial), (by first | decide | omega | assumption | trivial)⟩)) e_int (by first | decide | omega | assumption | trivial)) a_nil)) c_max2) ad_nil)))) (by simp [dParts])))
  rw [if_neg (of_decide_eq_false h)]
  refine ss_next (ss_if (t_test (e_op (e_var rfl) e_int r_eqI)) (fun h => ?_) (fun h => ?_))
  · rw [if_pos (of_decide_eq_true h)]
    exact ss_assoc (ss_retP (e_tup (ds := dParts (.turn line _)) (ad_cons e_str (ad_cons (e_var rfl) (ad_cons (E_law_mix (e_var rfl) e_int (e_op (e_var rfl) e_int r_I0) (by first | decide | omega | assumption | trivial)) ad_nil))) (by simp [dParts])))
  rw [if_neg (of_decide_eq_false h)]
  refine ss_next (ss_if (t_test (e_op (e_var rfl) e_int r_eqI)) (fun h => ?_) (fun h => ?_))
  · rw [if_pos (of_decide_eq_true h)]
    exact ss_assoc (ss_retP (e_tup (ds := dParts (.hold line)) (ad_cons e_str (ad_cons (e_var rfl) ad_nil)) (by simp [dParts])))
  rw [if_neg (of_decide_eq_false h)]
  refine ss_next (ss_set (e_tup (ad_cons (E_law_mix (e_var rfl) e_int e_int (by first | decide | omega | assumption | trivial)) (ad_cons (E_law_mix (e_var rfl) e_int e_int (by first | decide | omega | assumption | trivial)) ad_nil)) (by simp)) ?_)
  exact ss_retP (e_tup (ds := dParts (.call _ _ _ _ _)) (ad_cons e_str (ad_cons (E_law_mix (e_var rfl) e_int e_int (by first | decide | omega | assumption | trivial)) (ad_cons (e_var rfl) (ad_cons (e_tup (ad_cons (e_var rfl) (ad_cons (e_op (e_op (e_op (e_var rfl) e_int r_I0) (E_law_mix (e_var rfl) e_int e_int (by first | decide | omega | assumption | trivial)) r_I0) e_int (r_I (by first | decide | omega | assumption | trivial))) ad_nil)) (by simp)) ad_nil)))) (by simp [dParts]))

/-! ### _law_lines_by -/
-- needs: craft
theorem c_law_lines_by (T : Txt K mg ca) : Cal P w K mg base 4 "_law_lines_by" ["cell", "zero"] sp_law_lines_by := by
  refine fn_P T.d_law_lines_by sc_law_lines_by (fun _ => rfl) fun f cdv A outer s H E hr => ⟨_, (pss_cons (ps_ret (pe_lc (own := [("k", 2)]) (g := (gName 2)) (tt := tYes) rfl sc_law_lines_by.nd (pi_range1 rfl T.z_range (pa_cons (pc (c_law_mix T) hr (pa_cons (pv 0) (pa_cons pe_int (pa_cons pe_int pa_nil)))) pa_nil)) (blkOk_by (N := n_law_lines_by) (sc := defScope s_law_lines_by) (by decide +kernel)) (fun _ _ _ _ _ => (pg_name (i := 2) sc_law_lines_by.nd rfl (.inl rfl))) (fun _ _ _ _ _ => pts_nil) (fun _ _ _ _ _ => (pc (c_law_line_by T) hr (pa_cons (pe_op op_add (pv 0) (pe_op op_mul pe_int (pv 2))) (pa_cons (pv 1) pa_nil))))))
    pss_nil), ?_⟩
  rintro ⟨cell, zero⟩ F hF _
  have b := mix_lo (c := cell) (k := 20) (m := 3) (by decide)
  have b' := mix_hi (c := cell) (k := 20) (m := 3) (by decide)
  refine ss_retIs (e_ofO (o_lc0 (fun k : Nat => dIs (lineBy (cell + 77 * (k : Int)) zero)) (w_range1 (j := mix cell 20 3) (a_cons (E_law_mix (e_var rfl) e_int e_int (by first | decide | omega | assumption | trivial)) a_nil) (by omega) (by omega)) (by rw [List.length_range]; omega) fun i k hk => ⟨_, _, g_name, by simp, e_ofO (O_law_line_by (e_op (e_var rfl) (e_op e_int (e_var rfl) (r_I (by first | exact .inl (by decide) | exact .inr (by decide) | exact .inl (by omega) | exact .inr (by omega)))) r_I0) (e_var rfl))⟩)) ?_
  show _ = tLs (List.map dIs (linesBy cell zero))
  unfold linesBy
  rw [List.map_map]
  rfl

/-! ### _law_parts_by -/
-- needs: craft
theorem c_law_parts_by (T : Txt K mg ca) : Cal P w K mg base 5 "_law_parts_by" ["script", "start", "count"] (sp_law_parts_by K) := by
  refine fn_P T.d_law_parts_by sc_law_parts_by (fun _ => rfl) fun f cdv A outer s H E hr => ⟨_, (pss_cons (ps_set (i := 3) sc_law_parts_by.nd rfl (.inl rfl) (pc (c_law_lines_by T) hr (pa_cons (pc (c_law_cell_at T) hr (pa_cons (pv 0) (pa_cons (pv 1) pa_nil))) (pa_cons (pe_lst (pa_cons pe_int (pa_cons pe_int (pa_cons pe_int (pa_cons pe_int (pa_cons pe_int (pa_cons pe_int pa_nil))))))) pa_nil))))
    (pss_cons (ps_set (i := 4) sc_law_parts_by.nd rfl (.inl rfl) (pc (c_law_lines_by T) hr (pa_cons (pc (c_law_cell_at T) hr (pa_cons (pv 0) (pa_cons (pe_op op_add (pv 1) pe_int) pa_nil))) (pa_cons (pe_lst (pa_cons pe_int (pa_cons pe_int (pa_cons pe_int (pa_cons pe_int pa_nil))))) pa_nil))))
    (pss_cons (ps_setLc (i := 5) (own := [("k", 7)]) (g := (gName 7)) (tt := tYes) rfl sc_law_parts_by.nd rfl rfl (sw_true rfl rfl rfl (by decide +kernel)) (pi_range1 rfl T.z_range (pa_cons (pv 2) pa_nil)) (blkOk_by (N := n_law_parts_by) (sc := defScope s_law_parts_by) (by decide +kernel)) (fun _ _ _ _ _ => (pg_name (i := 7) sc_law_parts_by.nd rfl (.inl rfl))) (fun _ _ _ _ _ => pts_nil) (fun _ _ _ _ _ => (pc (c_law_deed_by T) hr (pa_cons (pc (c_law_cell_at T) hr (pa_cons (pv 0) (pa_cons (pe_op op_add (pe_op op_add (pv 1) pe_int) (pv 7)) pa_nil))) (pa_cons (pv 2) pa_nil)))))
    (pss_cons (ps_setLc (i := 6) (own := [("k", 7)]) (g := (gName 7)) (tt := tYes) rfl sc_law_parts_by.nd rfl rfl (sw_true rfl rfl rfl (by decide +kernel)) (pi_range1 rfl T.z_range (pa_cons (pv 2) pa_nil)) (blkOk_by (N := n_law_parts_by) (sc := defScope s_law_parts_by) (by decide +kernel)) (fun _ _ _ _ _ => (pg_name (i := 7) sc_law_parts_by.nd rfl (.inl rfl))) (fun _ _ _ _ _ => pts_nil) (fun _ _ _ _ _ => (pc (c_law_lines_by T) hr (pa_cons (pe_op op_fdiv (pc (c_law_cell_at T) hr (pa_cons (pv 0) (pa_cons (pe_op op_add (pe_op op_add (pv 1) pe_int) (pv 7)) pa_nil))) pe_int) (pa_cons (pe_lst (pa_cons pe_int (pa_cons pe_int pa_nil))) pa_nil)))))
    (pss_cons (ps_ret (pe_lst (pa_cons (pv 3) (pa_cons (pv 4) (pa_cons (pv 5) (pa_cons (pv 6) pa_nil))))))
    pss_nil))))), ?_⟩
  rintro ⟨ns, start, count⟩ F hF ⟨h0, h1⟩
  have h0 : 0 ≤ start := h0
  have h1 : count ≤ 1000 := h1
  refine ss_set (E_law_lines_by (zero := [0, 1, 2, 3, 6, 7]) (E_law_cell_at (e_var rfl) (e_var rfl) (by first | decide | omega | assumption | trivial)) (e_lst (ad_cons e_int (ad_cons e_int (ad_cons e_int (ad_cons e_int (ad_cons e_int (ad_cons e_int ad_nil)))))) (by simp))) ?_
  refine ss_set (E_law_lines_by (zero := [0, 1, 2, 3]) (E_law_cell_at (e_var rfl) (e_op (e_var rfl) e_int r_I0) (by first | decide | omega | assumption | trivial)) (e_lst (ad_cons e_int (ad_cons e_int (ad_cons e_int (ad_cons e_int ad_nil)))) (by simp))) ?_
  refine ss_set (e_ofO (o_lc0 (fun k : Nat => dDeed (deedBy (cellAt ns (start + 2 + (k : Int))) (count : Int))) (w_range1 (a_cons (e_var rfl) a_nil) (by omega) (by omega)) (by rw [List.length_range]; omega) fun i k hk => ⟨_, _, g_name, by simp, E_law_deed_by (E_law_cell_at (e_var rfl) (e_op (e_op (e_var rfl) e_int r_I0) (e_var rfl) r_I0) (by first | decide | omega | assumption | trivial)) (e_var rfl) (by omega)⟩)) ?_
  refine ss_set (e_ofO (o_lc0 (fun k : Nat => dLs (linesBy (cellAt ns (start + 2 + (k : Int)) / 19) [6, 7])) (w_range1 (a_cons (e_var rfl) a_nil) (by omega) (by omega)) (by rw [List.length_range]; omega) fun i k hk => ⟨_, _, g_name, by simp, E_law_lines_by (zero := [6, 7]) (e_op (E_law_cell_at (e_var rfl) (e_op (e_op (e_var rfl) e_int r_I0) (e_var rfl) r_I0) (by first | decide | omega | assumption | trivial)) e_int (r_I ⟨(by first | decide | omega | assumption | trivial), (by first | decide | omega | assumption | trivial)⟩)) (e_lst (ad_cons e_int (ad_cons e_int ad_nil)) (by simp))⟩)) ?_
  refine ss_retIs (e_lst (ad_cons (e_var rfl) (ad_cons (e_var rfl) (ad_cons (e_var rfl) (ad_cons (e_var rfl) ad_nil)))) (by simp)) ?_
  rw [Int.toNat_natCast]
  show _ = tLs (dParts4 (partsBy ns start count))
  unfold dParts4 partsBy dDeeds dNotes
  rw [List.map_map, List.map_map]
  rfl

/-! ### law -/
-- needs: craft
theorem c_law (l : PySem.W.OpenLaw) (T : Txt K mg ca) {fa : Addr} (hfa : mg "law" = some (.ref fa)) :
    ∃ fd : FuncData, (∀ (s : Shared) (v : Value), BindsTo s fd ⟨[v], []⟩ [("script", v)]) ∧ ∀ base : Heap, K.In base → base.Ns mainGlobals mg → FnOk l.prog w K mg base CX0 6 fa fd ["script"] (spLaw K) := by
  refine law_F hfa T.d_law sc_law fun base f cdv A outer s H E hr => ⟨_, (pss_cons (ps_set (i := 1) sc_law.nd rfl (.inl rfl) (pe_op op_add pe_int (pe_op op_mod (pc (c_law_cell_at T) hr (pa_cons (pv 0) (pa_cons pe_int pa_nil))) pe_int)))
    (pss_cons (ps_set (i := 2) sc_law.nd rfl (.inl rfl) (pc (c_law_parts_by T) hr (pa_cons (pv 0) (pa_cons pe_int (pa_cons (pv 1) pa_nil)))))
    (pss_cons (ps_set (i := 3) sc_law.nd rfl (.inl rfl) (pe_op op_mod (pc (c_law_cell_at T) hr (pa_cons (pv 0) (pa_cons pe_int pa_nil))) (pe_op op_add (pv 1) pe_int)))
    (pss_cons (ps_if (pt_cmpR op_eq (pe_op op_mod (pe_op op_fdiv (pc (c_law_cell_at T) hr (pa_cons (pv 0) (pa_cons pe_int pa_nil))) pe_int) pe_int) pe_int (nomark _))
    (pss_cons (ps_set (i := 3) sc_law.nd rfl (.inl rfl) (pv 1))
    pss_nil) pss_nil)
    (pss_cons (ps_set (i := 4) sc_law.nd rfl (.inl rfl) (pmk (c_Craft___init T) hr (pa_cons (pe_ix (kIxL K) (pv 2) pe_int (fun _ _ => rfl)) (pa_cons (pe_ix (kIxL K) (pv 2) pe_int (fun _ _ => rfl)) (pa_cons (pe_ix (kIxL K) (pv 2) pe_int (fun _ _ => rfl)) (pa_cons (pe_ix (kIxL K) (pv 2) pe_int (fun _ _ => rfl)) pa_nil))))))
    (pss_cons (ps_set (i := 5) sc_law.nd rfl (.inl rfl) (pc (c_law_parts_by T) hr (pa_cons (pv 0) (pa_cons pe_int (pa_cons (pv 1) pa_nil)))))
    (pss_cons (ps_set (i := 6) sc_law.nd rfl (.inl rfl) (pc (c_law_due T) hr (pa_cons (pv 2) (pa_cons (pv 3) pa_nil))))
    (pss_cons (ps_for PassesOwn.never rfl (kpList K (pe_ix (kIxL K) (pv 2) pe_int (fun _ _ => rfl))) (pg_name (i := 7) sc_law.nd rfl (.inl rfl))
    (pss_cons (ps_for PassesOwn.never rfl (kpTup K (pv 7)) (pg_name (i := 8) sc_law.nd rfl (.inl rfl))
    (pss_cons (ps_if (pt_val (pe_callB (kIsi K) (by rfl) T.z_isinstance (by decide +kernel) (pa_cons (pv 8) (pa_cons (pe_bltn (v := .ty "list") (by rfl) T.z_list (by decide +kernel) rfl) pa_nil))))
    (pss_cons (ps_asg (pe_op op_add (pe_ix (kIxL K) (pv 8) pe_int (fun _ _ => rfl)) pe_int) (pg_sub (pv 8) pe_int set_list))
    pss_nil) pss_nil)
    pss_nil))
    pss_nil))
    (pss_cons (ps_for PassesOwn.never rfl (kpList K (pe_op op_cat (pe_lst (pa_cons (pe_ix (kIxL K) (pv 2) pe_int (fun _ _ => rfl)) (pa_cons (pe_ix (kIxL K) (pv 2) pe_int (fun _ _ => rfl)) pa_nil))) (pe_ix (kIxL K) (pv 2) pe_int (fun _ _ => rfl)))) (pg_name (i := 9) sc_law.nd rfl (.inl rfl))
    (pss_cons (ps_for PassesOwn.never rfl (kpList K (pv 9)) (pg_name (i := 10) sc_law.nd rfl (.inl rfl))
    (pss_cons (ps_asg (pe_op op_add (pe_ix (kIxL K) (pv 10) pe_int (fun _ _ => rfl)) pe_int) (pg_sub (pv 10) pe_int set_list))
    pss_nil))
    pss_nil))
    (pss_cons (ps_expr (kBM K (pe_bm PySem.F.plainAttrs_list PySem.F.slot_list_append PySem.F.type_list_append mt_append (pe_ix (kIxL K) (pv 2) pe_int (fun _ _ => rfl)) (pa_cons (pe_lst pa_nil) pa_nil))))
    (pss_cons (ps_if (pt_cmpR (kNe K hr.units) (pe_lst (pa_cons (kFld K (pv 4)) (pa_cons (kFld K (pv 4)) (pa_cons (kFld K (pv 4)) (pa_cons (kFld K (pv 4)) pa_nil))))) (pv 5) (nomark _))
    (pss_cons (ps_ret pe_bl)
    pss_nil) pss_nil)
    (pss_cons (ps_set (i := 11) sc_law.nd rfl (.inl rfl) (pc (c_due_at T) hr (pa_cons (pv 4) (pa_cons (pv 3) pa_nil))))
    (pss_cons (ps_if (pt_not (pt_val (pc (c_law_alike T) hr (pa_cons (pv 11) (pa_cons (pv 6) pa_nil)))))
    (pss_cons (ps_ret pe_bl)
    pss_nil) pss_nil)
    (pss_cons (ps_for PassesOwn.never rfl (kpList K (pv 11)) (pg_name (i := 10) sc_law.nd rfl (.inl rfl))
    (pss_cons (ps_asg pe_int (pg_sub (pv 10) pe_int set_list))
    pss_nil))
    (pss_cons (ps_expr (kBM K (pe_bm PySem.F.plainAttrs_list PySem.F.slot_list_append PySem.F.type_list_append mt_append (pv 11) (pa_cons (pe_op op_rep (pe_lst (pa_cons pe_int pa_nil)) pe_int) pa_nil))))
    (pss_cons (ps_ret (pc (c_law_alike T) hr (pa_cons (pc (c_due_at T) hr (pa_cons (pv 4) (pa_cons (pv 3) pa_nil))) (pa_cons (pv 6) pa_nil))))
    pss_nil)))))))))))))))), ?_⟩
  rintro ns F hF hlen
  refine ss_set (e_op e_int (e_op (E_law_cell_at (e_var rfl) e_int (by first | decide | omega | assumption | trivial)) e_int (r_I (by first | decide | omega | assumption | trivial))) r_I0) ?_
  obtain ⟨count, hc, h1, h8⟩ : ∃ count : Nat, 1 + cellAt ns 0 % 8 = (count : Int) ∧ 1 ≤ count ∧ count ≤ 8 := ⟨(1 + cellAt ns 0 % 8).toNat, by omega, by omega, by omega⟩
  rw [hc]
  -- parts: a region
  refine ss_setM (m_rgP (res := fun a : List Int × Int × Nat => .list (dParts4 (partsBy a.1 a.2.1 a.2.2))) (ns, 2, count) (a_cons (e_var rfl) (a_cons e_int (a_cons (e_var rfl) a_nil))) rfl ⟨by show (0 : Int) ≤ 2; decide, by show count ≤ 1000; omega⟩ fun t ht => ?_) fun L hL hN => ?_
  · rcases List.mem_cons.mp ht with e | ht
    · subst e; exact frz_scr
    · rcases List.mem_cons.mp ht with e | ht
      · subst e; exact frz_atom atom_int
      · rw [List.mem_singleton.mp ht]; exact frz_atom atom_int
  have hL : NoT L := hL
  have sm := parts_sm ns 2 (count := count) (by omega)
  have hnd : (partsBy ns 2 count).notes.length = (partsBy ns 2 count).deeds.length := by simp [partsBy]
  have h9 : Lines9 (partsBy ns 2 count).leaves := lines_9 _ _
  have n9 : Lines9 (partsBy ns 2 count).needs := lines_9 _ _
  have t9 : ∀ x ∈ (partsBy ns 2 count).notes, Lines9 x := fun x hx => by
    obtain ⟨k, _, rfl⟩ := List.mem_map.mp hx
    exact lines_9 _ _
  have hdl : ∀ d ∈ (partsBy ns 2 count).deeds, DeedLn d := fun d hd => by
    obtain ⟨k, _, rfl⟩ := List.mem_map.mp hd
    exact deed_ln _ _
  have hdn : (partsBy ns 2 count).deeds.length = count := by simp [partsBy]
  have hlaw := fun place => due_law ns 2 count place
  dsimp only
  generalize hkept : partsBy ns 2 count = c at *
  refine ss_set (e_op (E_law_cell_at (e_var rfl) e_int (by first | decide | omega | assumption | trivial)) (e_op (e_var rfl) e_int r_I0) (r_I (by omega))) ?_
  obtain ⟨p0, hp0, hp1⟩ : ∃ p0 : Nat, cellAt ns 1 % ((count : Int) + 1) = (p0 : Int) ∧ p0 ≤ count := by
    have b1 := Int.emod_nonneg (cellAt ns 1) (show (count : Int) + 1 ≠ 0 by omega)
    have b2 := Int.emod_lt_of_pos (cellAt ns 1) (show 0 < (count : Int) + 1 by omega)
    exact ⟨(cellAt ns 1 % ((count : Int) + 1)).toNat, by omega, by omega⟩
  rw [hp0]
  refine ss_ifE (γ := Nat) (fun p => p ≤ count) (fun p => [some (tScr K ns), some (tI (count : Int)), some (tRg L (.list (dParts4 c))), some (tI (p : Int)), none, none, none, none, none, none, none, none]) (fun _ => [cReg L]) (t_test (e_op (e_op (e_op (E_law_cell_at (e_var rfl) e_int (by first | decide | omega | assumption | trivial)) e_int (r_I ⟨(by first | decide | omega | assumption | trivial), (by first | decide | omega | assumption | trivial)⟩)) e_int (r_I (by first | decide | omega | assumption | trivial))) e_int r_eqI)) (fun _ => ss_set (e_var rfl) (ss_nil fun σ H S s => ⟨count, Nat.le_refl _, s.weak (by repeat (first | exact trivial | refine ⟨.inr rfl, ?_⟩ | refine ⟨.inl rfl, ?_⟩))⟩)) (fun _ => ss_nil fun σ H S s => ⟨p0, hp1, s.weak (by repeat (first | exact trivial | refine ⟨.inr rfl, ?_⟩ | refine ⟨.inl rfl, ?_⟩))⟩) fun place hpl => ?_
  have pt : ∀ {Γ : List Sl} {j : Nat} {d : PyData}, Γ[2]? = some (some (tRg L (.list (dParts4 c)))) → (dParts4 c)[j]? = some d → SE false (tOp (rIxL K) (tVar 2) (tC (.int (j : Int)))) Γ [cReg L] (tD d) := fun h1 h2 => e_ov (e_ixOv (e_rg (e_var h1)) hasR e_int (atI_nat h2)) hasR
  refine ss_set (E_Craft (c := c) (pt (j := 0) rfl rfl) (pt (j := 1) rfl rfl) (pt (j := 2) rfl rfl) (pt (j := 3) rfl rfl) sm) ?_
  refine ss_set (E_law_parts_by (count := count) (e_var rfl) e_int (e_var rfl) ⟨by decide, by omega⟩) ?_
  rw [hkept]
  refine ss_set (E_law_due8 (c := c) (place := place) (e_ov (e_rg (e_var rfl)) hasR) (e_var rfl) ⟨sm, hnd, h9⟩) ?_
  -- what was handed in changes
  refine ss_junk ?_
  have pj : ∀ {Γ : List Sl} {j : Nat} {d : PyData}, Γ[2]? = some (some (tRg L (.list (dParts4 c)))) → (dParts4 c)[j]? = some d → SE true (tOp (rIxL K) (tVar 2) (tC (.int (j : Int)))) Γ [cJk L] (tRg L d) := fun h1 h2 => e_ixJ (e_var h1) hasJ ni_list e_int (atI_nat h2)
  have nil : ∀ {ls : List (List Int)}, NI (ls.map dIs) := fun {ls} => ni_lines ls
  have ne : ∀ {l : List Int}, l.length = 9 → l ≠ [] := fun h e => by rw [e] at h; cases h
  refine ss_forz (γ := Unit) (w_mapz (ys := c.deeds) (f := dDeed) (ty' := fun d => tRg L (dDeed d)) (w_listJ (pj (j := 2) rfl rfl) hasJ (ni_deeds _)) rfl (fun _ => rfl)) (fun _ _ => True) (fun _ _ => [some (tScr K ns), some (tI (count : Int)), some (tRg L (.list (dParts4 c))), some (tI (place : Int)), some (tCraft ca c), some (tLs (dParts4 c)), some (tLl (lawDue c place)), none, none, none, none, none]) (fun _ _ => [cJk L]) () trivial (by repeat (first | exact trivial | refine ⟨.inr rfl, ?_⟩ | refine ⟨.inl rfl, ?_⟩)) rfl (fun _ _ _ _ k => k.head.1) ?_ ?_
  · rintro i _ d hi _
    have hd := part_kind (hdl d (List.mem_of_getElem? hi))
    refine ⟨_, _, g_name, ?_⟩
    refine ss_for (γ := Unit) (w_tupJ (e_var rfl) hL) (fun _ _ => True) (fun _ _ => [some (tScr K ns), some (tI (count : Int)), some (tRg L (.list (dParts4 c))), some (tI (place : Int)), some (tCraft ca c), some (tLs (dParts4 c)), some (tLl (lawDue c place)), none, none, none, none, none]) (fun _ _ => [cJk L]) () trivial (by repeat (first | exact trivial | refine ⟨.inr rfl, ?_⟩ | refine ⟨.inl rfl, ?_⟩)) rfl ?_ fun _ _ => ss_nil fun σ H S s => ⟨(), trivial, s⟩
    rintro j _ b hj _
    have hb := hd b (List.mem_of_getElem? hj)
    refine ⟨_, _, g_name, ?_⟩
    refine ss_if (t_B (e_isiJ (e_var rfl) hasJ hb hL kit_list)) (fun h => ?_) (fun h => ss_next (ss_nil fun σ H S s => ⟨(), trivial, s.weak (by repeat (first | exact trivial | refine ⟨.inr rfl, ?_⟩ | refine ⟨.inl rfl, ?_⟩))⟩))
    rcases hb with ⟨l, hl, rfl⟩ | hb
    · exact ss_assoc (ss_jset (e_ixJ0 rfl hl hasJ e_int) rfl hl (ss_next (ss_nil fun σ H S s => ⟨(), trivial, s.weak (by repeat (first | exact trivial | refine ⟨.inr rfl, ?_⟩ | refine ⟨.inl rfl, ?_⟩))⟩)))
    · cases b <;> first | (unfold noL at hb; cases hb; done) | (cases h; done)
  intro _ _
  have cat : SE true _ [some (tScr K ns), some (tI (count : Int)), some (tRg L (.list (dParts4 c))), some (tI (place : Int)), some (tCraft ca c), some (tLs (dParts4 c)), some (tLl (lawDue c place)), none, none, none, none, none] [cJk L] (tLV _) := e_catJ (Ts := [tRg L (dLs c.needs), tRg L (dLs c.leaves)]) (e_lstV (a_cons (pj (j := 0) rfl rfl) (a_cons (pj (j := 1) rfl rfl) a_nil)) (by simp)) (pj (j := 3) rfl rfl) hasJ (ni_notes c.notes) (by rw [List.length_map]; have := sm.t; simp; omega)
  refine ss_for (γ := Unit) (w_map (ys := c.needs :: c.leaves :: c.notes) (f := fun ls => tRg L (dLs ls)) (ty' := fun ls => tRg L (dLs ls)) (w_listV cat) (by rw [List.map_map]; rfl) (fun _ => rfl)) (fun _ _ => True) (fun _ _ => [some (tScr K ns), some (tI (count : Int)), some (tRg L (.list (dParts4 c))), some (tI (place : Int)), some (tCraft ca c), some (tLs (dParts4 c)), some (tLl (lawDue c place)), none, none, none, none, none]) (fun _ _ => [cJk L]) () trivial (by repeat (first | exact trivial | refine ⟨.inr rfl, ?_⟩ | refine ⟨.inl rfl, ?_⟩)) rfl ?_ ?_
  · rintro i _ ls hi _
    have hls : Lines9 ls := by
      have hm := List.mem_of_getElem? hi
      rcases List.mem_cons.mp hm with e | hm
      · rw [e]; exact n9
      · rcases List.mem_cons.mp hm with e | hm
        · rw [e]; exact h9
        · exact t9 ls hm
    refine ⟨_, _, g_name, ?_⟩
    refine ss_forz (γ := Unit) (w_mapz (ys := ls) (f := dIs) (ty' := fun l => tRg L (dIs l)) (w_listJ (e_var rfl) hasJ nil) rfl (fun _ => rfl)) (fun _ _ => True) (fun _ _ => [some (tScr K ns), some (tI (count : Int)), some (tRg L (.list (dParts4 c))), some (tI (place : Int)), some (tCraft ca c), some (tLs (dParts4 c)), some (tLl (lawDue c place)), none, none, none, none, none]) (fun _ _ => [cJk L]) () trivial (by repeat (first | exact trivial | refine ⟨.inr rfl, ?_⟩ | refine ⟨.inl rfl, ?_⟩)) rfl (fun _ _ _ _ k => k.head.1) ?_ fun _ _ => ss_nil fun σ H S s => ⟨(), trivial, s⟩
    rintro j _ l hj _
    have hl := ne (hls l (List.mem_of_getElem? hj)).1
    refine ⟨_, _, g_name, ?_⟩
    exact ss_jset (e_ixJ0 rfl hl hasJ e_int) rfl hl (ss_nil fun σ H S s => ⟨(), trivial, s.weak (by repeat (first | exact trivial | refine ⟨.inr rfl, ?_⟩ | refine ⟨.inl rfl, ?_⟩))⟩)
  intro _ _
  refine ss_japp (pj (j := 3) rfl rfl) (ni_notes c.notes) (by rw [List.length_map]; have := sm.t; omega) (e_lst (ds := []) ad_nil (by decide)) ?_ rfl
  have cr : ∀ {i : Nat} {f : Str} {T' : Ty}, cNames[i]? = some f → (cTys c)[i]? = some T' → NoAttr K ca.Craft f → ∀ {Γ : List Sl} {C : List Cell}, Γ[4]? = some (some (tCraft ca c)) → SE true (tFld K (tVar 4) f) Γ C T' := fun h1 h2 h3 _ _ h4 => e_fld (e_var h4) T.k_Craft h3 h1 h2 cNames_nd
  refine ss_if (b := false) (t_is (t_test (e_op (e_lst (ds := dParts4 c) (ad_cons (cr (i := 0) rfl rfl T.n_Craft_needs rfl) (ad_cons (cr (i := 1) rfl rfl T.n_Craft_leaves rfl) (ad_cons (cr (i := 2) rfl rfl T.n_Craft_deeds rfl) (ad_cons (cr (i := 3) rfl rfl T.n_Craft_notes rfl) ad_nil)))) (by simp [dParts4])) (e_var rfl) (r_neD (okd_parts c).shaped (okd_parts c).shaped))) (by rw [eqv_same (okd_parts c)]; rfl)) (fun h => (nomatch h)) (fun _ => ss_next ?_)
  refine ss_setM (M_due_at (c := c) (place := place) (e_var rfl) (e_var rfl) ⟨sm, hnd, h9⟩) fun L2 hL2 _ => ?_
  have hdue : dueL c place = lawDue c place := hlaw place
  have d9 : (∀ l ∈ lawDue c place, l.length = 9) ∧ (lawDue c place).length ≤ 1000 := by
    unfold lawDue
    split
    · rename_i hp
      have hg : c.notes[place]? = some (c.notes.getD place []) := by rw [List.getD_eq_getElem?_getD, List.getElem?_eq_getElem (by omega)]; rfl
      exact ⟨fun l hl => (t9 _ (List.mem_of_getElem? hg) l hl).1, sm.ts _ (List.mem_of_getElem? hg)⟩
    · refine ⟨fun l hl => ?_, by rw [List.length_map]; exact sm.l⟩
      obtain ⟨l0, _, rfl⟩ := List.mem_map.mp hl
      rfl
  rw [hdue]
  refine ss_if (b := false) (t_is (t_not (t_B (V_law_alike8 (m := true) (e_ov (e_rg (e_var rfl)) hasR) (e_var rfl) d9))) rfl) (fun h => (nomatch h)) (fun _ => ss_next ?_)
  refine ss_junk ?_
  refine ss_forz (γ := Unit) (w_mapz (ys := lawDue c place) (f := dIs) (ty' := fun l => tRg L2 (dIs l)) (w_listJ (e_var rfl) hasJ nil) rfl (fun _ => rfl)) (fun _ _ => True) (fun _ _ => [some (tScr K ns), some (tI (count : Int)), none, some (tI (place : Int)), some (tCraft ca c), none, some (tLl (lawDue c place)), none, none, none, none, some (tRg L2 (dLs (lawDue c place)))]) (fun _ _ => [cJk L2]) () trivial (by repeat (first | exact trivial | refine ⟨.inr rfl, ?_⟩ | refine ⟨.inl rfl, ?_⟩)) rfl (fun _ _ _ _ k => k.head.1) ?_ ?_
  · rintro j _ l hj _
    have hl := ne (d9.1 l (List.mem_of_getElem? hj))
    refine ⟨_, _, g_name, ?_⟩
    exact ss_jset (someI e_int) rfl hl (ss_nil fun σ H S s => ⟨(), trivial, s.weak (by repeat (first | exact trivial | refine ⟨.inr rfl, ?_⟩ | refine ⟨.inl rfl, ?_⟩))⟩)
  intro _ _
  refine ss_japp (ds := (lawDue c place).map dIs) (e_var rfl) nil (by rw [List.length_map]; omega) (e_ofO (o_rep1 e_int e_int (by first | decide | omega | assumption | trivial) (by first | decide | omega | assumption | trivial))) ?_ rfl
  exact ss_retP (V_law_alike8 (e_is (E_due_at (c := c) (place := place) (e_var rfl) (e_var rfl) ⟨sm, hnd, h9⟩) (by rw [hdue]) |> fun h => e_view h) (e_var rfl) d9)

end
end Sw
open PySem PySem.W PyProof.Rows
set_option maxRecDepth 100000 in
set_option maxHeartbeats 0 in
theorem PySem.Challenge.cw_swornhall_k08_due_lines_holds : PySem.Challenge.rw_swornhall_k08_due_lines.Holds := by
  w_on; o_law; k_head; (case hw => w_witness2)
  k_fill
  refine Sw.law_walk (l := PySem.Challenge.rw_swornhall_k08_due_lines) (k := 6) rfl rfl ⟨rfl, by decide, by decide⟩ (fun w h Y => PySem.W.kIn_of Y) ?F
  case F =>
    intro w mg fa h KX G hmg
    refine' Sw.c_law (ca := ⟨_, 0, 0, 0, 0, 0, 0, 0, 0, 0⟩) PySem.Challenge.rw_swornhall_k08_due_lines ?T hmg
    case T =>
      refine ⟨?_, ?_, ?_, ?_, ?_, ?_, ?_, ?_, ?_, ?_, ?_, ?_, ?_, ?_, ?_, ?_, ?_, ?_, ?_, ?_, ?_, ?_, ?_, ?_, ?_, ?_, ?_, ?_, ?_, ?_, ?_, ?_, ?_, ?_⟩
      · dsimp only
        refine' Sw.defI_mk KX G ?a ?m1 ?m2 ?m3 ?m4 ?l ?c ?k (fun _ _ _ _ _ _ us hl => match us, hl with | [_, _, _, _, _], _ => rfl)
        (case a => k_is); (case m1 => k_is); (case m2 => k_is); (case m3 => k_is); (case m4 => k_is); (case l => k_is); (case c => k_is); (case k => k_is)
      · dsimp only
        refine' ⟨?pg, ?hd, ?po, ?sa⟩
        (case pg => k_is); (case hd => k_is); (case po => k_is); (case sa => k_is)
      · dsimp only
        unfold L2.NoAttr
        k_is
      · dsimp only
        unfold L2.NoAttr
        k_is
      · dsimp only
        unfold L2.NoAttr
        k_is
      · dsimp only
        unfold L2.NoAttr
        k_is
      · refine' Sw.def_mk KX G ?a ?l ?c ?k (fun _ _ _ _ _ _ us hl => match us, hl with | [_], _ => rfl)
        (case a => k_is); (case l => k_is); (case c => k_is); (case k => k_is)
      · refine' Sw.def_mk KX G ?a ?l ?c ?k (fun _ _ _ _ _ _ us hl => match us, hl with | [_], _ => rfl)
        (case a => k_is); (case l => k_is); (case c => k_is); (case k => k_is)
      · refine' Sw.def_mk KX G ?a ?l ?c ?k (fun _ _ _ _ _ _ us hl => match us, hl with | [_, _], _ => rfl)
        (case a => k_is); (case l => k_is); (case c => k_is); (case k => k_is)
      · refine' Sw.def_mk KX G ?a ?l ?c ?k (fun _ _ _ _ _ _ us hl => match us, hl with | [_, _], _ => rfl)
        (case a => k_is); (case l => k_is); (case c => k_is); (case k => k_is)
      · refine' Sw.def_mk KX G ?a ?l ?c ?k (fun _ _ _ _ _ _ us hl => match us, hl with | [_], _ => rfl)
        (case a => k_is); (case l => k_is); (case c => k_is); (case k => k_is)
      · refine' Sw.def_mk KX G ?a ?l ?c ?k (fun _ _ _ _ _ _ us hl => match us, hl with | [_], _ => rfl)
        (case a => k_is); (case l => k_is); (case c => k_is); (case k => k_is)
      · refine' Sw.def_mk KX G ?a ?l ?c ?k (fun _ _ _ _ _ _ us hl => match us, hl with | [_, _], _ => rfl)
        (case a => k_is); (case l => k_is); (case c => k_is); (case k => k_is)
      · refine' Sw.def_mk KX G ?a ?l ?c ?k (fun _ _ _ _ _ _ us hl => match us, hl with | [_, _], _ => rfl)
        (case a => k_is); (case l => k_is); (case c => k_is); (case k => k_is)
      · refine' Sw.def_mk KX G ?a ?l ?c ?k (fun _ _ _ _ _ _ us hl => match us, hl with | [_, _, _], _ => rfl)
        (case a => k_is); (case l => k_is); (case c => k_is); (case k => k_is)
      · refine' Sw.def_mk KX G ?a ?l ?c ?k (fun _ _ _ _ _ _ us hl => match us, hl with | [_, _], _ => rfl)
        (case a => k_is); (case l => k_is); (case c => k_is); (case k => k_is)
      · refine' Sw.def_mk KX G ?a ?l ?c ?k (fun _ _ _ _ _ _ us hl => match us, hl with | [_, _], _ => rfl)
        (case a => k_is); (case l => k_is); (case c => k_is); (case k => k_is)
      · refine' Sw.def_mk KX G ?a ?l ?c ?k (fun _ _ _ _ _ _ us hl => match us, hl with | [_, _], _ => rfl)
        (case a => k_is); (case l => k_is); (case c => k_is); (case k => k_is)
      · refine' Sw.def_mk KX G ?a ?l ?c ?k (fun _ _ _ _ _ _ us hl => match us, hl with | [_, _], _ => rfl)
        (case a => k_is); (case l => k_is); (case c => k_is); (case k => k_is)
      · refine' Sw.def_mk KX G ?a ?l ?c ?k (fun _ _ _ _ _ _ us hl => match us, hl with | [_, _, _], _ => rfl)
        (case a => k_is); (case l => k_is); (case c => k_is); (case k => k_is)
      · refine' Sw.def_mk KX G ?a ?l ?c ?k (fun _ _ _ _ _ _ us hl => match us, hl with | [_], _ => rfl)
        (case a => k_is); (case l => k_is); (case c => k_is); (case k => k_is)
      · refine' Sw.def_mk KX G ?a ?l ?c ?k (fun _ _ _ _ _ _ us hl => match us, hl with | [_], _ => rfl)
        (case a => k_is); (case l => k_is); (case c => k_is); (case k => k_is)
      · refine' Sw.def_mk KX G ?a ?l ?c ?k (fun _ _ _ _ _ _ us hl => match us, hl with | [_, _], _ => rfl)
        (case a => k_is); (case l => k_is); (case c => k_is); (case k => k_is)
      · refine' Sw.def_mk KX G ?a ?l ?c ?k (fun _ _ _ _ _ _ us hl => match us, hl with | [_, _], _ => rfl)
        (case a => k_is); (case l => k_is); (case c => k_is); (case k => k_is)
      · refine' Sw.def_mk KX G ?a ?l ?c ?k (fun _ _ _ _ _ _ us hl => match us, hl with | [_], _ => rfl)
        (case a => k_is); (case l => k_is); (case c => k_is); (case k => k_is)
      · refine' PySem.W.mg_none_of KX G ?z
        (case z => k_is)
      · refine' PySem.W.mg_none_of KX G ?z
        (case z => k_is)
      · refine' PySem.W.mg_none_of KX G ?z
        (case z => k_is)
      · refine' PySem.W.mg_none_of KX G ?z
        (case z => k_is)
      · refine' PySem.W.mg_none_of KX G ?z
        (case z => k_is)
      · refine' PySem.W.mg_none_of KX G ?z
        (case z => k_is)
      · refine' PySem.W.mg_none_of KX G ?z
        (case z => k_is)
      · refine' PySem.W.mg_none_of KX G ?z
        (case z => k_is)
      · refine' PySem.W.mg_none_of KX G ?z
        (case z => k_is)

