import PyProof.Rows.All
import Wide.All
import OpenK.AllK
import Wide.FinOn
import HandS.ForMost
import HandS.Walk
import HandS.NoneIn
import HandS.WordsExc
import HandS.TryOnly
import HandS.TryMany
import HandS.ExcIs
import HandS.More
import HandS.IsInst
import HandS.Style
import PySem.Challenge.RW_swornhall_k06_the_clerk
set_option Elab.async false
set_option linter.all false
set_option maxRecDepth 100000
set_option maxHeartbeats 4000000
/-! the engine: readings over data. A value's type is a predicate that stays while what is settled grows. -/
namespace Sw
open PySem L2

/-! ### types, growth, cells, states -/
structure Ty where
  ok : Hp → V → Prop
  mono : ∀ {S S' : Hp} {v : V}, Same S S' → ok S v → ok S' v

/-! ### data: what stands in H by tracked lists and tuples -/
mutual
inductive Dq (H : Hp) : V → PyData → Prop
  | non : Dq H .non .none
  | bl (b : Bool) : Dq H (.bl b) (.bool b)
  | int (i : Int) : Dq H (.int i) (.int i)
  | str (x : Str) : Dq H (.str x) (.str x)
  | lst {a : Addr} {xs : List V} {ds : List PyData} : H a = some (.lst xs) → DqAll H xs ds → Dq H (.ref a) (.list ds)
  | tup {a : Addr} {xs : List V} {ds : List PyData} : H a = some (.tup xs) → DqAll H xs ds → Dq H (.ref a) (.tuple ds)
inductive DqAll (H : Hp) : List V → List PyData → Prop
  | nil : DqAll H [] []
  | cons {v : V} {vs : List V} {d : PyData} {ds : List PyData} : Dq H v d → DqAll H vs ds → DqAll H (v :: vs) (d :: ds)
end
mutual
theorem dp_mono {H H' : Hp} (e : Same H H') : ∀ (d : PyData) (v : V), Dq H v d → Dq H' v d
  | .none, _, h => by cases h; exact .non
  | .bool _, _, h => by cases h; exact .bl _
  | .int _, _, h => by cases h; exact .int _
  | .str _, _, h => by cases h; exact .str _
  | .list ds, _, h => by
    cases h with
    | lst hs ha => exact .lst (e _ _ hs) (dps_mono e ds _ ha)
  | .tuple ds, _, h => by
    cases h with
    | tup hs ha => exact .tup (e _ _ hs) (dps_mono e ds _ ha)
  | .dict _, _, h => by cases h
theorem dps_mono {H H' : Hp} (e : Same H H') : ∀ (ds : List PyData) (vs : List V), DqAll H vs ds → DqAll H' vs ds
  | [], _, h => by cases h; exact .nil
  | d :: ds, _, h => by
    cases h with
    | cons h1 h2 => exact .cons (dp_mono e d _ h1) (dps_mono e ds _ h2)
end
mutual
theorem dq_dp {K : PySem.W.Frag} {H : Hp} : ∀ (d : PyData) (v : V), Dq H v d → Dp K H v d
  | .none, _, h => by cases h; exact .non
  | .bool _, _, h => by cases h; exact .bl _
  | .int _, _, h => by cases h; exact .int _
  | .str _, _, h => by cases h; exact .str _
  | .list ds, _, h => by
    cases h with
    | lst hs ha => exact .lst (SqL.of hs) (dqs_dp ds _ ha)
  | .tuple ds, _, h => by
    cases h with
    | tup hs ha => exact .tup (SqT.of hs) (dqs_dp ds _ ha)
  | .dict _, _, h => by cases h
theorem dqs_dp {K : PySem.W.Frag} {H : Hp} : ∀ (ds : List PyData) (vs : List V), DqAll H vs ds → DpAll K H vs ds
  | [], _, h => by cases h; exact .nil
  | d :: ds, _, h => by
    cases h with
    | cons h1 h2 => exact .cons (dq_dp d _ h1) (dqs_dp ds _ h2)
end
section
variable {H : Hp}
theorem dp_int {v : V} {i : Int} (h : Dq H v (.int i)) : v = .int i := by cases h; rfl
theorem dp_bl {v : V} {b : Bool} (h : Dq H v (.bool b)) : v = .bl b := by cases h; rfl
theorem dp_str {v : V} {x : Str} (h : Dq H v (.str x)) : v = .str x := by cases h; rfl
theorem dp_non {v : V} (h : Dq H v .none) : v = .non := by cases h; rfl
theorem dp_lst {v : V} {ds : List PyData} (h : Dq H v (.list ds)) : ∃ a xs, v = .ref a ∧ H a = some (.lst xs) ∧ DqAll H xs ds := by
  cases h with
  | lst hs ha => exact ⟨_, _, rfl, hs, ha⟩
theorem dp_tup {v : V} {ds : List PyData} (h : Dq H v (.tuple ds)) : ∃ a xs, v = .ref a ∧ H a = some (.tup xs) ∧ DqAll H xs ds := by
  cases h with
  | tup hs ha => exact ⟨_, _, rfl, hs, ha⟩
theorem dps_len : ∀ {ds : List PyData} {vs : List V}, DqAll H vs ds → vs.length = ds.length
  | [], _, h => by cases h; rfl
  | d :: ds, _, h => by
    cases h with
    | cons _ h2 => simp only [List.length_cons, dps_len h2]
theorem dps_get : ∀ {ds : List PyData} {vs : List V} {i : Nat} {d : PyData}, DqAll H vs ds → ds[i]? = some d → ∃ v, vs[i]? = some v ∧ Dq H v d
  | [], _, i, d, h, e => by simp at e
  | d0 :: ds, _, 0, d, h, e => by
    cases h with
    | cons h1 h2 => simp at e; subst e; exact ⟨_, rfl, h1⟩
  | d0 :: ds, _, i + 1, d, h, e => by
    cases h with
    | cons h1 h2 =>
      obtain ⟨v, e1, e2⟩ := dps_get h2 (by simpa using e)
      exact ⟨v, by simpa using e1, e2⟩
theorem dps_getV : ∀ {ds : List PyData} {vs : List V} {i : Nat} {v : V}, DqAll H vs ds → vs[i]? = some v → ∃ d, ds[i]? = some d ∧ Dq H v d
  | [], _, i, d, h, e => by cases h; simp at e
  | d0 :: ds, _, 0, d, h, e => by
    cases h with
    | cons h1 h2 => simp at e; subst e; exact ⟨_, rfl, h1⟩
  | d0 :: ds, _, i + 1, d, h, e => by
    cases h with
    | cons h1 h2 =>
      obtain ⟨v, e1, e2⟩ := dps_getV h2 (by simpa using e)
      exact ⟨v, by simpa using e1, e2⟩
theorem dps_app : ∀ {ds es : List PyData} {vs us : List V}, DqAll H vs ds → DqAll H us es → DqAll H (vs ++ us) (ds ++ es)
  | [], _, _, _, h, h' => by cases h; exact h'
  | d :: ds, _, _, _, h, h' => by
    cases h with
    | cons h1 h2 => exact .cons h1 (dps_app h2 h')
theorem dps_take : ∀ {ds : List PyData} {vs : List V} (n : Nat), DqAll H vs ds → DqAll H (vs.take n) (ds.take n)
  | _, _, 0, _ => .nil
  | [], _, n + 1, h => by cases h; exact .nil
  | d :: ds, _, n + 1, h => by
    cases h with
    | cons h1 h2 => exact .cons h1 (dps_take n h2)
theorem dps_drop : ∀ {ds : List PyData} {vs : List V} (n : Nat), DqAll H vs ds → DqAll H (vs.drop n) (ds.drop n)
  | _, _, 0, h => h
  | [], _, n + 1, h => by cases h; exact .nil
  | d :: ds, _, n + 1, h => by
    cases h with
    | cons h1 h2 => exact dps_drop n h2
theorem dps_set {v : V} {d : PyData} (hd : Dq H v d) : ∀ {ds : List PyData} {vs : List V} (n : Nat), DqAll H vs ds → DqAll H (vs.set n v) (ds.set n d)
  | [], _, n, h => by cases h; exact .nil
  | d0 :: ds, _, 0, h => by
    cases h with
    | cons h1 h2 => exact .cons hd h2
  | d0 :: ds, _, n + 1, h => by
    cases h with
    | cons h1 h2 => exact .cons h1 (dps_set hd n h2)
theorem dps_erase : ∀ {ds : List PyData} {vs : List V} (n : Nat), DqAll H vs ds → DqAll H (vs.eraseIdx n) (ds.eraseIdx n)
  | [], _, n, h => by cases h; exact .nil
  | d0 :: ds, _, 0, h => by
    cases h with
    | cons h1 h2 => exact h2
  | d0 :: ds, _, n + 1, h => by
    cases h with
    | cons h1 h2 => exact .cons h1 (dps_erase n h2)
theorem dps_rev {ds : List PyData} {vs : List V} (h : DqAll H vs ds) : DqAll H vs.reverse ds.reverse := by
  induction ds generalizing vs with
  | nil => cases h; exact .nil
  | cons d ds ih =>
    cases h with
    | cons h1 h2 =>
      rw [List.reverse_cons, List.reverse_cons]
      exact dps_app (ih h2) (.cons h1 .nil)
theorem dps_ints {ns : List Int} {vs : List V} (h : DqAll H vs (ns.map PyData.int)) : vs = ns.map V.int := by
  induction ns generalizing vs with
  | nil => cases h; rfl
  | cons n ns ih =>
    cases h with
    | cons h1 h2 => rw [dp_int h1, ih h2]; rfl
theorem dps_ofInts : ∀ (ns : List Int), DqAll H (ns.map V.int) (ns.map PyData.int)
  | [] => .nil
  | _ :: ns => .cons (.int _) (dps_ofInts ns)
theorem dps_bls {bs : List Bool} {vs : List V} (h : DqAll H vs (bs.map PyData.bool)) : vs = bs.map V.bl := by
  induction bs generalizing vs with
  | nil => cases h; rfl
  | cons n ns ih =>
    cases h with
    | cons h1 h2 => rw [dp_bl h1, ih h2]; rfl
end
def tD (d : PyData) : Ty := ⟨fun S v => Dq S v d, fun e h => dp_mono e d _ h⟩
def tV (v : V) : Ty := ⟨fun _ u => u = v, fun _ h => h⟩
def tAny : Ty := ⟨fun _ _ => True, fun _ h => h⟩

/-- growth but for M -/
structure Gr (M : Addr → Prop) (H S H' S' : Hp) : Prop where
  keep : ∀ q o, H q = some o → ¬ M q → H' q = some o
  there : ∀ q, H' q = none → H q = none
  s : Same S S'
  sub : Same S' H'
  new : ∀ q o, S' q = some o → S q = some o ∨ H q = none
abbrev M0 : Addr → Prop := fun _ => False
abbrev Gr0 := Gr M0
section
variable {M : Addr → Prop} {H S H1 S1 H2 S2 : Hp}
theorem Gr.same (g : Gr0 H S H1 S1) : Same H H1 := fun q o h => g.keep q o h fun z => z
theorem Gr.refl (h : Same S H) : Gr M H S H S := ⟨fun _ _ h _ => h, fun _ h => h, Same.refl S, h, fun _ _ h => .inl h⟩
theorem Gr.trans (a : Gr M H S H1 S1) (b : Gr M H1 S1 H2 S2) : Gr M H S H2 S2 where
  keep := fun q o h n => b.keep q o (a.keep q o h n) n
  there := fun q h => a.there q (b.there q h)
  s := a.s.trans b.s
  sub := b.sub
  new := fun q o h => by
    rcases b.new q o h with h | h
    · exact a.new q o h
    · exact .inr (a.there q h)
theorem Gr.weak {M' : Addr → Prop} (a : Gr M H S H1 S1) (h : ∀ q, M q → M' q) : Gr M' H S H1 S1 := ⟨fun q o e n => a.keep q o e fun z => n (h q z), a.there, a.s, a.sub, a.new⟩
theorem Gr.up (a : Gr0 H S H1 S1) : Gr M H S H1 S1 := a.weak fun _ z => z.elim
/-- what was there and is not settled is not settled after -/
theorem Gr.un (a : Gr M H S H1 S1) {q : Addr} {o : HO} (h : H q = some o) (n : S q = none) : S1 q = none := by
  cases e : S1 q with
  | none => rfl
  | some u =>
    rcases a.new q u e with z | z
    · rw [n] at z; cases z
    · rw [h] at z; cases z
theorem same_none {H H1 : Hp} (e : Same H H1) {q : Addr} (h : H1 q = none) : H q = none := e.free h
theorem same_upd {H : Hp} {p : Addr} {o : HO} (h : H p = none) : Same H (upd H p o) := fun b x e => by
  rw [upd_ne (ne_of_none e h)]; exact e
theorem same_upds {S H : Hp} {p : Addr} {o : HO} (e : Same S H) : Same (upd S p o) (upd H p o) := fun b x h => by
  by_cases c : b = p
  · subst c; rw [upd_same] at h ⊢; exact h
  · rw [upd_ne c] at h ⊢; exact e b x h
/-- a new object, not settled -/
theorem Gr.alloc (sub : Same S H) {p : Addr} {o : HO} (h : H p = none) : Gr M H S (upd H p o) S :=
  ⟨fun q u e _ => same_upd h q u e, fun q e => same_none (same_upd h) e, Same.refl S, sub.trans (same_upd h), fun _ _ e => .inl e⟩
/-- a new object, settled -/
theorem Gr.allocS (sub : Same S H) {p : Addr} {o : HO} (h : H p = none) : Gr M H S (upd H p o) (upd S p o) :=
  ⟨fun q u e _ => same_upd h q u e, fun q e => same_none (same_upd h) e, same_upd (same_none sub h), same_upds sub, fun q u e => by
    by_cases c : q = p
    · subst c; exact .inr h
    · rw [upd_ne c] at e; exact .inl e⟩
/-- an object that stands is settled -/
theorem Gr.settle (sub : Same S H1) {p : Addr} {o : HO} (h : H1 p = some o) (n : S p = none) : Same S (upd S p o) ∧ Same (upd S p o) H1 :=
  ⟨same_upd n, fun q u e => by
    by_cases c : q = p
    · subst c; rw [upd_same] at e; rw [h]; exact e
    · rw [upd_ne c] at e; exact sub q u e⟩
end

structure Cell where
  p : Addr
  ok : Hp → HO → Prop
  mono : ∀ {S S' : Hp} {o : HO}, Same S S' → ok S o → ok S' o
  /-- may it be written -/
  w : Bool
/-- seen only -/
def Cell.ro (c : Cell) : Cell := ⟨c.p, c.ok, c.mono, false⟩
/-- a list of data -/
def cL (p : Addr) (ds : List PyData) : Cell := ⟨p, fun S o => ∃ vs, o = .lst vs ∧ DqAll S vs ds, fun e ⟨vs, h1, h2⟩ => ⟨vs, h1, dps_mono e ds vs h2⟩, true⟩
/-- just this object -/
def cR (p : Addr) (o : HO) : Cell := ⟨p, fun _ u => u = o, fun _ h => h, true⟩
structure CellsOk (C : List Cell) (H S : Hp) : Prop where
  at_ : ∀ c ∈ C, ∃ o, H c.p = some o ∧ S c.p = none ∧ c.ok S o
  nd : (C.map (·.p)).Nodup
theorem CellsOk.nil {H S : Hp} : CellsOk [] H S := ⟨fun _ h => (nomatch h), List.nodup_nil⟩
theorem CellsOk.grow {C : List Cell} {H S H1 S1 : Hp} (c : CellsOk C H S) (g : Gr0 H S H1 S1) : CellsOk C H1 S1 :=
  ⟨fun x hx => by
    obtain ⟨o, h1, h2, h3⟩ := c.at_ x hx
    exact ⟨o, g.same _ _ h1, g.un h1 h2, x.mono g.s h3⟩, c.nd⟩
theorem CellsOk.cons {C : List Cell} {c : Cell} {H S : Hp} {o : HO} (k : CellsOk C H S) (h1 : H c.p = some o) (h2 : S c.p = none) (h3 : c.ok S o) (hn : ∀ x ∈ C, x.p ≠ c.p) : CellsOk (c :: C) H S :=
  ⟨fun x hx => by
    rcases List.mem_cons.mp hx with e | hx
    · subst e; exact ⟨o, h1, h2, h3⟩
    · exact k.at_ x hx, by
    show (c.p :: C.map (·.p)).Nodup
    refine List.nodup_cons.mpr ⟨fun m => ?_, k.nd⟩
    obtain ⟨x, hx, e⟩ := List.mem_map.mp m
    exact hn x hx e⟩
theorem CellsOk.new {C : List Cell} {c : Cell} {H S H1 S1 : Hp} {o : HO} (k : CellsOk C H S) (g : Gr0 H S H1 S1) (hp : H c.p = none) (h1 : H1 c.p = some o) (h2 : S1 c.p = none) (h3 : c.ok S1 o) : CellsOk (c :: C) H1 S1 :=
  (k.grow g).cons h1 h2 h3 fun x hx e => by
    obtain ⟨u, q, _⟩ := k.at_ x hx
    rw [e, hp] at q; cases q
theorem CellsOk.tail {C : List Cell} {c : Cell} {H S : Hp} (k : CellsOk (c :: C) H S) : CellsOk C H S :=
  ⟨fun x hx => k.at_ x (List.mem_cons_of_mem _ hx), (List.nodup_cons.mp k.nd).2⟩
theorem CellsOk.head {C : List Cell} {c : Cell} {H S : Hp} (k : CellsOk (c :: C) H S) : ∃ o, H c.p = some o ∧ S c.p = none ∧ c.ok S o := k.at_ c List.mem_cons_self
theorem CellsOk.ne {C : List Cell} {c : Cell} {H S : Hp} (k : CellsOk (c :: C) H S) : ∀ x ∈ C, x.p ≠ c.p := fun x hx e =>
  (List.nodup_cons.mp k.nd).1 (List.mem_map.mpr ⟨x, hx, e⟩)
theorem CellsOk.perm {C C' : List Cell} {H S : Hp} (k : CellsOk C H S) (h : C.Perm C') : CellsOk C' H S :=
  ⟨fun x hx => k.at_ x (h.mem_iff.mpr hx), (h.map _).nodup_iff.mp k.nd⟩
/-- the head cell is written -/
theorem CellsOk.write {C : List Cell} {c c' : Cell} {H S : Hp} {o : HO} (k : CellsOk (c :: C) H S) (e : c'.p = c.p) (h : c'.ok S o) : CellsOk (c' :: C) (upd H c.p o) S := by
  obtain ⟨u, q1, q2, _⟩ := k.head
  have kt : CellsOk C (upd H c.p o) S := ⟨fun x hx => by
    obtain ⟨u, h1, h2, h3⟩ := k.tail.at_ x hx
    exact ⟨u, by rw [upd_ne (k.ne x hx)]; exact h1, h2, h3⟩, k.tail.nd⟩
  exact kt.cons (by rw [e]; exact upd_same) (by rw [e]; exact q2) h fun x hx => by rw [e]; exact k.ne x hx

/-- a def's frame: what it may write, where it began -/
structure Fr0 where
  M : Addr → Prop
  H : Hp
  S : Hp
abbrev Sl := Option Ty
structure Stt (F : Fr0) (Γ : List Sl) (C : List Cell) (σ : St) (H S : Hp) : Prop where
  g : Gr F.M F.H F.S H S
  len : Γ.length = σ.length
  sl : ∀ (i : Nat) (T : Ty), Γ[i]? = some (some T) → ∃ v, σ[i]? = some (some v) ∧ T.ok S v
  cl : CellsOk C H S
  can : ∀ c ∈ C, c.w = true → F.M c.p ∨ F.H c.p = none
section
variable {F : Fr0} {Γ Γ' : List Sl} {C C' : List Cell} {σ : St} {H S H1 S1 : Hp}
theorem Stt.sub (s : Stt F Γ C σ H S) : Same S H := s.g.sub
theorem Stt.grow (s : Stt F Γ C σ H S) (g : Gr0 H S H1 S1) : Stt F Γ C σ H1 S1 :=
  ⟨s.g.trans g.up, s.len, fun i T h => let ⟨v, e, k⟩ := s.sl i T h; ⟨v, e, T.mono g.s k⟩, s.cl.grow g, s.can⟩
theorem Stt.set (s : Stt F Γ C σ H S) {i : Nat} {v : V} {T : Ty} (h : T.ok S v) : Stt F (Γ.set i (some T)) C (σ.set i (some v)) H S :=
  ⟨s.g, by simpa using s.len, fun j U e => by
    by_cases hj : i = j
    · subst hj
      by_cases hl : i < Γ.length
      · rw [List.getElem?_set_self hl] at e
        cases e
        exact ⟨v, List.getElem?_set_self (by rw [← s.len]; exact hl), h⟩
      · rw [List.getElem?_eq_none (by simpa using hl)] at e; cases e
    · rw [List.getElem?_set_ne hj] at e ⊢
      exact s.sl j U e, s.cl, s.can⟩
def leG : List Sl → List Sl → Prop
  | [], [] => True
  | a :: r, b :: t => (b = none ∨ a = b) ∧ leG r t
  | _, _ => False
theorem leG.refl : ∀ {Γ : List Sl}, leG Γ Γ
  | [] => trivial
  | _ :: _ => ⟨.inr rfl, leG.refl⟩
theorem leG.len : ∀ {Γ Γ' : List Sl}, leG Γ Γ' → Γ.length = Γ'.length
  | [], [], _ => rfl
  | a :: r, b :: t, h => by simp only [List.length_cons, leG.len h.2]
  | [], _ :: _, h => h.elim
  | _ :: _, [], h => h.elim
theorem leG.get : ∀ {Γ Γ' : List Sl} {i : Nat} {T : Ty}, leG Γ Γ' → Γ'[i]? = some (some T) → Γ[i]? = some (some T)
  | [], [], _, _, _, e => by simp at e
  | a :: r, b :: t, 0, T, h, e => by
    rcases h.1 with q | q
    · subst q; simp at e
    · subst q; exact e
  | a :: r, b :: t, i + 1, T, h, e => by
    simp at e ⊢
    exact leG.get h.2 e
  | [], _ :: _, _, _, h, _ => h.elim
  | _ :: _, [], _, _, h, _ => h.elim
theorem Stt.weak (s : Stt F Γ C σ H S) (h : leG Γ Γ') : Stt F Γ' C σ H S :=
  ⟨s.g, h.len ▸ s.len, fun i T e => s.sl i T (h.get e), s.cl, s.can⟩
theorem Stt.perm (s : Stt F Γ C σ H S) (h : C.Perm C') : Stt F Γ C' σ H S :=
  ⟨s.g, s.len, s.sl, s.cl.perm h, fun c hc => s.can c (h.mem_iff.mpr hc)⟩
/-- a new cell -/
theorem Stt.new (s : Stt F Γ C σ H S) {c : Cell} {o : HO} (g : Gr0 H S H1 S1) (hp : H c.p = none) (h1 : H1 c.p = some o) (h2 : S1 c.p = none) (h3 : c.ok S1 o) : Stt F Γ (c :: C) σ H1 S1 :=
  ⟨s.g.trans g.up, s.len, (s.grow g).sl, s.cl.new g hp h1 h2 h3, fun x hx => by
    rcases List.mem_cons.mp hx with e | hx
    · subst e; exact fun _ => .inr (s.g.there _ hp)
    · exact s.can x hx⟩
/-- the head cell written -/
theorem Stt.write (s : Stt F Γ (c :: C) σ H S) {c' : Cell} {o : HO} (e : c'.p = c.p) (h : c'.ok S o) (hw : c.w = true := by rfl) : Stt F Γ (c' :: C) σ (upd H c.p o) S := by
  obtain ⟨u, q1, q2, _⟩ := s.cl.head
  have hc := s.can c List.mem_cons_self hw
  refine ⟨⟨fun q x hq n => ?_, fun q hq => ?_, s.g.s, fun q x hq => ?_, s.g.new⟩, s.len, s.sl, s.cl.write e h, fun x hx => ?_⟩
  · have nq : q ≠ c.p := fun z => by
      subst z
      rcases hc with z | z
      · exact n z
      · rw [hq] at z; cases z
    rw [upd_ne nq]; exact s.g.keep q x hq n
  · refine s.g.there q ?_
    by_cases z : q = c.p
    · subst z; rw [upd_same] at hq; cases hq
    · rw [upd_ne z] at hq; exact hq
  · have nq : q ≠ c.p := fun z => by subst z; rw [q2] at hq; cases hq
    rw [upd_ne nq]; exact s.g.sub q x hq
  · rcases List.mem_cons.mp hx with z | hx
    · subst z; rw [e]; exact fun _ => hc
    · exact s.can x (List.mem_cons_of_mem _ hx)
theorem Stt.drop (s : Stt F Γ (c :: C) σ H S) : Stt F Γ C σ H S := ⟨s.g, s.len, s.sl, s.cl.tail, fun x hx => s.can x (List.mem_cons_of_mem _ hx)⟩
/-- the head cell settles: only what is the def's own -/
theorem Stt.settle (s : Stt F Γ (c :: C) σ H S) (hn : F.H c.p = none) : ∃ o, H c.p = some o ∧ c.ok S o ∧ S c.p = none ∧ Stt F Γ C σ H (upd S c.p o) := by
  obtain ⟨o, q1, q2, q3⟩ := s.cl.head
  obtain ⟨e1, e2⟩ := Gr.settle s.sub q1 q2
  refine ⟨o, q1, q3, q2, ⟨s.g.keep, s.g.there, s.g.s.trans e1, e2, fun q u e => ?_⟩, s.len, fun i T h => let ⟨v, a, b⟩ := s.sl i T h; ⟨v, a, T.mono e1 b⟩, ⟨fun x hx => ?_, s.cl.tail.nd⟩, fun x hx => s.can x (List.mem_cons_of_mem _ hx)⟩
  · by_cases z : q = c.p
    · subst z; exact .inr hn
    · rw [upd_ne z] at e; exact s.g.new q u e
  · obtain ⟨u, h1, h2, h3⟩ := s.cl.tail.at_ x hx
    exact ⟨u, h1, by rw [upd_ne (s.cl.ne x hx)]; exact h2, x.mono e1 h3⟩
end
/-- the view: settled, or the whole -/
def vw (m : Bool) (H S : Hp) : Hp := match m with
  | true => S
  | false => H
theorem vw_same {m : Bool} {H S H1 S1 : Hp} (g : Gr0 H S H1 S1) : Same (vw m H S) (vw m H1 S1) := by
  cases m with
  | true => exact g.s
  | false => exact g.same
theorem vw_sub {m : Bool} {H S : Hp} (h : Same S H) : Same (vw m H S) H := by
  cases m with
  | true => exact h
  | false => exact Same.refl H
end Sw
/-! readings judged over data -/
namespace Sw
open PySem L2

abbrev tI (i : Int) : Ty := tD (.int i)
abbrev tBo (b : Bool) : Ty := tD (.bool b)
abbrev tSt (x : Str) : Ty := tD (.str x)
abbrev tN : Ty := tD .none
abbrev tLs (ds : List PyData) : Ty := tD (.list ds)
abbrev tTp (ds : List PyData) : Ty := tD (.tuple ds)

def Tys (S : Hp) : List Ty → List V → Prop
  | [], [] => True
  | T :: Ts, v :: vs => T.ok S v ∧ Tys S Ts vs
  | _, _ => False
theorem Tys.mono {S S' : Hp} (e : Same S S') : ∀ {Ts : List Ty} {vs : List V}, Tys S Ts vs → Tys S' Ts vs
  | [], [], _ => trivial
  | T :: _, _ :: _, h => ⟨T.mono e h.1, Tys.mono e h.2⟩
  | [], _ :: _, h => h.elim
  | _ :: _, [], h => h.elim
theorem Tys.len {S : Hp} : ∀ {Ts : List Ty} {vs : List V}, Tys S Ts vs → vs.length = Ts.length
  | [], [], _ => rfl
  | _ :: _, _ :: _, h => by simp only [List.length_cons, Tys.len h.2]
  | [], _ :: _, h => h.elim
  | _ :: _, [], h => h.elim
theorem Tys.get {S : Hp} : ∀ {Ts : List Ty} {vs : List V} {i : Nat} {T : Ty}, Tys S Ts vs → Ts[i]? = some T → ∃ v, vs[i]? = some v ∧ T.ok S v
  | T0 :: _, v :: _, 0, T, h, e => by simp at e; subst e; exact ⟨v, rfl, h.1⟩
  | _ :: _, _ :: _, i + 1, T, h, e => by simp at e ⊢; exact Tys.get h.2 e
  | [], [], _, _, _, e => by simp at e
  | [], _ :: _, _, _, h, _ => h.elim
  | _ :: _, [], _, _, h, _ => h.elim
theorem Tys.data {S : Hp} : ∀ {ds : List PyData} {vs : List V}, Tys S (ds.map (tD)) vs → DqAll S vs ds
  | [], [], _ => .nil
  | _ :: _, _ :: _, h => .cons h.1 (Tys.data h.2)
  | [], _ :: _, h => h.elim
  | _ :: _, [], h => h.elim

def SE (m : Bool) (te : TE) (Γ : List Sl) (C : List Cell) (T : Ty) : Prop := ∀ (F : Fr0) (σ : L2.St) (H S : Hp), Stt F Γ C σ H S → ∀ Q : VK, (∀ v H' S', Gr0 H S H' S' → T.ok (vw m H' S') v → Q v H') → te σ H Q
def ST (tt : TT) (Γ : List Sl) (C : List Cell) (b : Bool) : Prop := ∀ (F : Fr0) (σ : L2.St) (H S : Hp), Stt F Γ C σ H S → ∀ Q : Bool → Hp → Prop, (∀ H' S', Gr0 H S H' S' → Q b H') → tt σ H Q
def SA (m : Bool) (ta : TA) (Γ : List Sl) (C : List Cell) (Ts : List Ty) : Prop := ∀ (F : Fr0) (σ : L2.St) (H S : Hp), Stt F Γ C σ H S → ∀ Q : List V → Hp → Prop, (∀ vs H' S', Gr0 H S H' S' → Tys (vw m H' S') Ts vs → Q vs H') → ta σ H Q
/-- a new list, not settled; its items are -/
def SO (te : TE) (Γ : List Sl) (C : List Cell) (ds : List PyData) : Prop := ∀ (F : Fr0) (σ : L2.St) (H S : Hp), Stt F Γ C σ H S → ∀ Q : VK,
  (∀ p vs H' S', Gr0 H S H' S' → H p = none → H' p = some (.lst vs) → S' p = none → DqAll S' vs ds → Q (.ref p) H') → te σ H Q
/-- a part of a slice -/
def SP (to : TO) (Γ : List Sl) (C : List Cell) (o : Option Int) : Prop := ∀ (F : Fr0) (σ : L2.St) (H S : Hp), Stt F Γ C σ H S → ∀ Q : Option Int → Hp → Prop, (∀ H' S', Gr0 H S H' S' → Q o H') → to σ H Q
/-- an operation of two values; of one; of a list of values -/
def R2k (m : Bool) (r : R2) (Tx Ty' T : Ty) : Prop := ∀ (x y : V) (H S : Hp), Same S H → Tx.ok (vw m H S) x → Ty'.ok (vw m H S) y → ∀ Q : VK, (∀ z H' S', Gr0 H S H' S' → T.ok (vw m H' S') z → Q z H') → r x y H Q
def R1k (m : Bool) (r : V → Hp → VK → Prop) (Tx T : Ty) : Prop := ∀ (x : V) (H S : Hp), Same S H → Tx.ok (vw m H S) x → ∀ Q : VK, (∀ z H' S', Gr0 H S H' S' → T.ok (vw m H' S') z → Q z H') → r x H Q
def RCk (m : Bool) (r : List V → Hp → VK → Prop) (Ts : List Ty) (T : Ty) : Prop := ∀ (vs : List V) (H S : Hp), Same S H → Tys (vw m H S) Ts vs → ∀ Q : VK, (∀ z H' S', Gr0 H S H' S' → T.ok (vw m H' S') z → Q z H') → r vs H Q
def RCo (m : Bool) (r : List V → Hp → VK → Prop) (Ts : List Ty) (ds : List PyData) : Prop := ∀ (vs : List V) (H S : Hp), Same S H → Tys (vw m H S) Ts vs → ∀ Q : VK,
  (∀ p us H' S', Gr0 H S H' S' → H p = none → H' p = some (.lst us) → S' p = none → DqAll S' us ds → Q (.ref p) H') → r vs H Q
/-- does not lean on the heap -/
def Atom (T : Ty) : Prop := ∀ S S' v, T.ok S v → T.ok S' v

section
variable {K : PySem.W.Frag} {m : Bool} {Γ Γ' : List Sl} {C : List Cell} {ta tb te tx : TE} {t u : TT} {T Tx Tz T1 T2 : Ty} {r : R2} {F : Fr0} {b : Bool}
theorem atom_int {i : Int} : Atom (tI i) := fun _ _ _ h => by rw [dp_int h]; exact .int i
theorem atom_bl {b : Bool} : Atom (tBo b) := fun _ _ _ h => by rw [dp_bl h]; exact .bl b
theorem atom_str {x : Str} : Atom (tSt x) := fun _ _ _ h => by rw [dp_str h]; exact .str x
theorem atom_non : Atom (tN) := fun _ _ _ h => by rw [dp_non h]; exact .non
theorem atom_v {v : V} : Atom (tV v) := fun _ _ _ h => h
theorem e_atom {m' : Bool} (h : SE m' te Γ C T) (ha : Atom T) : SE m te Γ C T := fun F σ H S s Q q => h F σ H S s Q fun v H' S' g k => q v H' S' g (ha _ _ _ k)
theorem e_view (h : SE true te Γ C T) : SE m te Γ C T := fun F σ H S s Q q => h F σ H S s Q fun v H' S' g k => q v H' S' g (by
  cases m with
  | true => exact k
  | false => exact T.mono g.sub k)
theorem e_is {T' : Ty} (h : SE m te Γ C T) (e : T = T') : SE m te Γ C T' := e ▸ h
theorem e_var {i : Nat} (h : Γ[i]? = some (some T)) : SE m (tVar i) Γ C T := fun F σ H S s Q q => by
  obtain ⟨v, e, k⟩ := s.sl i T h
  refine ⟨v, e, q v H S (Gr.refl s.sub) ?_⟩
  cases m with
  | true => exact k
  | false => exact T.mono s.sub k
/-- an own list seen as data -/
theorem e_own {i : Nat} {p : Addr} {ds : List PyData} (h : Γ[i]? = some (some (tV (.ref p)))) (hc : cL p ds ∈ C) : SE false (tVar i) Γ C (tLs ds) := fun F σ H S s Q q => by
  obtain ⟨v, e, k⟩ := s.sl i _ h
  obtain ⟨o, h1, h2, vs, rfl, h3⟩ := s.cl.at_ _ hc
  have k : v = .ref p := k
  subst k
  exact ⟨_, e, q _ H S (Gr.refl s.sub) (.lst h1 (dps_mono s.sub _ _ h3))⟩
theorem e_int {i : Int} : SE m (tC (.int i)) Γ C (tI i) := fun _ _ H S s _ q => q _ H S (Gr.refl s.sub) (.int i)
theorem e_bl {b : Bool} : SE m (tC (.bl b)) Γ C (tBo b) := fun _ _ H S s _ q => q _ H S (Gr.refl s.sub) (.bl b)
theorem e_str {x : Str} : SE m (tC (.str x)) Γ C (tSt x) := fun _ _ H S s _ q => q _ H S (Gr.refl s.sub) (.str x)
theorem e_non : SE m (tC .non) Γ C (tN) := fun _ _ H S s _ q => q _ H S (Gr.refl s.sub) .non
theorem e_op (ha : SE m ta Γ C Tx) (hb : SE m tb Γ C Tz) (hr : R2k m r Tx Tz T) : SE m (tOp r ta tb) Γ C T := fun F σ H S s Q q =>
  ha F σ H S s _ fun x H1 S1 g1 k1 => hb F σ H1 S1 (s.grow g1) _ fun y H2 S2 g2 k2 => hr x y H2 S2 g2.sub (Tx.mono (vw_same g2) k1) k2 Q fun z H3 S3 g3 k3 => q z H3 S3 ((g1.trans g2).trans g3) k3
theorem e_un {r : V → Hp → VK → Prop} (ha : SE m ta Γ C Tx) (hr : R1k m r Tx T) : SE m (tUn r ta) Γ C T := fun F σ H S s Q q =>
  ha F σ H S s _ fun x H1 S1 g1 k1 => hr x H1 S1 g1.sub k1 Q fun z H3 S3 g3 k3 => q z H3 S3 (g1.trans g3) k3
theorem r_I0 {g : Int → Int → Int} {i j : Int} : R2k m (rI0 fun i j => .int (g i j)) (tI i) (tI j) (tI (g i j)) := fun x y H S s hx hy Q q => by
  rw [dp_int hx, dp_int hy]; exact ⟨i, j, rfl, rfl, q _ H S (Gr.refl s) (.int _)⟩
theorem r_B0 {g : Int → Int → Bool} {i j : Int} : R2k m (rI0 fun i j => .bl (g i j)) (tI i) (tI j) (tBo (g i j)) := fun x y H S s hx hy Q q => by
  rw [dp_int hx, dp_int hy]; exact ⟨i, j, rfl, rfl, q _ H S (Gr.refl s) (.bl _)⟩
theorem r_I {Cn : Int → Int → Prop} {g : Int → Int → Int} {i j : Int} (hc : Cn i j) : R2k m (rI Cn fun i j => .int (g i j)) (tI i) (tI j) (tI (g i j)) := fun x y H S s hx hy Q q => by
  rw [dp_int hx, dp_int hy]; exact ⟨i, j, rfl, rfl, hc, q _ H S (Gr.refl s) (.int _)⟩
theorem r_neg {i : Int} : R1k m (rU fun i => .int (-i)) (tI i) (tI (-i)) := fun x H S s hx Q q => by
  rw [dp_int hx]; exact ⟨i, rfl, q _ H S (Gr.refl s) (.int _)⟩
/-- the scalars' == -/
def atv : PyData → Option V
  | .none => some .non
  | .bool b => some (.bl b)
  | .int i => some (.int i)
  | .str x => some (.str x)
  | _ => none
theorem atv_dp {S : Hp} {d : PyData} {v w : V} (h : Dq S v d) (e : atv d = some w) : v = w := by
  cases h <;> simp [atv] at e <;> exact e
theorem r_eq {d d' : PyData} {v v' : V} (e : atv d = some v) (e' : atv d' = some v') (hs : scal v v' = true) : R2k m rEq (tD d) (tD d') (tBo (decide (v = v'))) := fun x y H S s hx hy Q q => by
  rw [atv_dp hx e, atv_dp hy e']; exact ⟨hs, q _ H S (Gr.refl s) (.bl _)⟩
theorem r_ne {d d' : PyData} {v v' : V} (e : atv d = some v) (e' : atv d' = some v') (hs : scal v v' = true) : R2k m rNe (tD d) (tD d') (tBo (!decide (v = v'))) := fun x y H S s hx hy Q q => by
  rw [atv_dp hx e, atv_dp hy e']; exact ⟨hs, q _ H S (Gr.refl s) (.bl _)⟩
theorem r_eqI {i j : Int} : R2k m rEq (tI i) (tI j) (tBo (decide (i = j))) := by
  have h := r_eq (m := m) (d := .int i) (d' := .int j) rfl rfl rfl
  rwa [show decide (V.int i = V.int j) = decide (i = j) by simp] at h
theorem r_neI {i j : Int} : R2k m rNe (tI i) (tI j) (tBo (!decide (i = j))) := by
  have h := r_ne (m := m) (d := .int i) (d' := .int j) rfl rfl rfl
  rwa [show decide (V.int i = V.int j) = decide (i = j) by simp] at h
theorem r_eqS {i j : Str} : R2k m rEq (tSt i) (tSt j) (tBo (decide (i = j))) := by
  have h := r_eq (m := m) (d := .str i) (d' := .str j) rfl rfl rfl
  rwa [show decide (V.str i = V.str j) = decide (i = j) by simp] at h
theorem r_neS {i j : Str} : R2k m rNe (tSt i) (tSt j) (tBo (!decide (i = j))) := by
  have h := r_ne (m := m) (d := .str i) (d' := .str j) rfl rfl rfl
  rwa [show decide (V.str i = V.str j) = decide (i = j) by simp] at h
theorem r_eqB {i j : Bool} : R2k m rEq (tBo i) (tBo j) (tBo (i == j)) := by
  have h := r_eq (m := m) (d := .bool i) (d' := .bool j) rfl rfl rfl
  rwa [show decide (V.bl i = V.bl j) = (i == j) by simp; cases i <;> cases j <;> rfl] at h
theorem r_neB {i j : Bool} : R2k m rNe (tBo i) (tBo j) (tBo (i != j)) := by
  have h := r_ne (m := m) (d := .bool i) (d' := .bool j) rfl rfl rfl
  rwa [show (!decide (V.bl i = V.bl j)) = (i != j) by cases i <;> cases j <;> rfl] at h
theorem r_eqD {d d' : PyData} (h : SeqAt.shaped d = true) (h' : SeqAt.shaped d' = true) : R2k m (rEqD K) (tD d) (tD d') (tBo (PyData.eqv d d')) := fun x y H S s hx hy Q q =>
  ⟨d, d', dq_dp _ _ (dp_mono (vw_sub s) _ _ hx), dq_dp _ _ (dp_mono (vw_sub s) _ _ hy), h, h', q _ H S (Gr.refl s) (.bl _)⟩
theorem r_neD {d d' : PyData} (h : SeqAt.shaped d = true) (h' : SeqAt.shaped d' = true) : R2k m (rNeD K) (tD d) (tD d') (tBo (!PyData.eqv d d')) := fun x y H S s hx hy Q q =>
  ⟨d, d', dq_dp _ _ (dp_mono (vw_sub s) _ _ hx), dq_dp _ _ (dp_mono (vw_sub s) _ _ hy), h, h', q _ H S (Gr.refl s) (.bl _)⟩
theorem dps_atI {H : Hp} {ds : List PyData} {vs : List V} {i : Int} {d : PyData} (h : DqAll H vs ds) (e : atI ds i = some d) : ∃ v, atI vs i = some v ∧ Dq H v d := by
  unfold atI at e ⊢
  rw [dps_len h]
  cases hn : ixN ds.length i with
  | none => rw [hn] at e; cases e
  | some j =>
    rw [hn] at e
    exact dps_get h (by simpa using e)
theorem r_ixL {ds : List PyData} {i : Int} {d : PyData} (e : atI ds i = some d) : R2k m (rIxL K) (tLs ds) (tI i) (tD d) := fun x y H S s hx hy Q q => by
  obtain ⟨a, xs, rfl, h1, h2⟩ := dp_lst hx
  obtain ⟨v, e1, e2⟩ := dps_atI h2 e
  rw [dp_int hy]
  exact ⟨a, xs, i, v, rfl, rfl, SqL.of (vw_sub s _ _ h1), e1, q v H S (Gr.refl s) e2⟩
theorem r_ixT {ds : List PyData} {i : Int} {d : PyData} (e : atI ds i = some d) : R2k m (rIxT K) (tTp ds) (tI i) (tD d) := fun x y H S s hx hy Q q => by
  obtain ⟨a, xs, rfl, h1, h2⟩ := dp_tup hx
  obtain ⟨v, e1, e2⟩ := dps_atI h2 e
  rw [dp_int hy]
  exact ⟨a, xs, i, v, rfl, rfl, SqT.of (vw_sub s _ _ h1), e1, q v H S (Gr.refl s) e2⟩
/-- an item of an own list is settled -/
theorem e_ixO {i : Nat} {p : Addr} {ds : List PyData} {k : Int} {d : PyData} (h : Γ[i]? = some (some (tV (.ref p)))) (hc : cL p ds ∈ C) (hb : SE m tb Γ C (tI k)) (e : atI ds k = some d) : SE m (tOp (rIxL K) (tVar i) tb) Γ C (tD d) := fun F σ H S s Q q => by
  obtain ⟨v, ev, kv⟩ := s.sl i _ h
  have kv : v = .ref p := kv
  subst kv
  refine ⟨_, ev, hb F σ H S s _ fun y H1 S1 g1 ky => ?_⟩
  obtain ⟨o, h1, h2, vs, rfl, h3⟩ := (s.grow g1).cl.at_ _ hc
  obtain ⟨v, e1, e2⟩ := dps_atI h3 e
  rw [dp_int ky]
  refine ⟨p, vs, k, v, rfl, rfl, SqL.of h1, e1, q v H1 S1 g1 ?_⟩
  cases m with
  | true => exact e2
  | false => exact dp_mono g1.sub _ _ e2
/-- flat items' in -/
def atvs : List PyData → Option (List V)
  | [] => some []
  | d :: ds => match atv d, atvs ds with
    | some v, some vs => some (v :: vs)
    | _, _ => none
theorem atvs_dp {S : Hp} : ∀ {ds : List PyData} {vs ws : List V}, DqAll S vs ds → atvs ds = some ws → vs = ws
  | [], _, _, h, e => by cases h; simp [atvs] at e; exact e.symm
  | d :: ds, _, ws, h, e => by
    cases h with
    | cons h1 h2 =>
      unfold atvs at e
      split at e
      · rename_i v vs e1 e2
        cases e
        rw [atv_dp h1 e1, atvs_dp h2 e2]
      · cases e
theorem r_inL {d : PyData} {ds : List PyData} {v : V} {ws : List V} {neg : Bool} (e : atv d = some v) (e' : atvs ds = some ws) (h1 : flatV v = true) (h2 : ws.all flatV = true) : R2k m (rIn K neg) (tD d) (tLs ds) (tBo (if neg then !inV v ws else inV v ws)) := fun x y H S s hx hy Q q => by
  obtain ⟨a, xs, rfl, g1, g2⟩ := dp_lst hy
  rw [atv_dp hx e]
  have e2 := atvs_dp g2 e'
  subst e2
  exact ⟨a, xs, rfl, .inl (SqL.of (vw_sub s _ _ g1)), h1, h2, q _ H S (Gr.refl s) (.bl _)⟩
theorem r_inT {d : PyData} {ds : List PyData} {v : V} {ws : List V} {neg : Bool} (e : atv d = some v) (e' : atvs ds = some ws) (h1 : flatV v = true) (h2 : ws.all flatV = true) : R2k m (rIn K neg) (tD d) (tTp ds) (tBo (if neg then !inV v ws else inV v ws)) := fun x y H S s hx hy Q q => by
  obtain ⟨a, xs, rfl, g1, g2⟩ := dp_tup hy
  rw [atv_dp hx e]
  have e2 := atvs_dp g2 e'
  subst e2
  exact ⟨a, xs, rfl, .inr (SqT.of (vw_sub s _ _ g1)), h1, h2, q _ H S (Gr.refl s) (.bl _)⟩
theorem atvs_ints : ∀ ns : List Int, atvs (ns.map PyData.int) = some (ns.map V.int)
  | [] => rfl
  | n :: ns => by simp [atvs, atv, atvs_ints ns]
theorem inV_ints (k : Int) : ∀ ns : List Int, inV (.int k) (ns.map V.int) = decide (k ∈ ns)
  | [] => by simp [inV]
  | n :: ns => by
    have ih := inV_ints k ns
    unfold inV at ih ⊢
    rw [List.map_cons, List.any_cons, ih]
    by_cases c : n = k
    · subst c; simp [eqV]
    · have c' : ¬ k = n := fun e => c e.symm
      simp [eqV, c, c']
theorem flat_ints : ∀ ns : List Int, (ns.map V.int).all flatV = true
  | [] => rfl
  | n :: ns => by rw [List.map_cons, List.all_cons, flat_ints ns]; rfl
theorem r_inI {k : Int} {ns : List Int} : R2k m (rIn K false) (tI k) (tLs (ns.map .int)) (tBo (decide (k ∈ ns))) := by
  have h := r_inL (K := K) (m := m) (d := .int k) (neg := false) rfl (atvs_ints ns) rfl (flat_ints ns)
  rwa [inV_ints] at h
theorem r_niI {k : Int} {ns : List Int} : R2k m (rIn K true) (tI k) (tLs (ns.map .int)) (tBo (!decide (k ∈ ns))) := by
  have h := r_inL (K := K) (m := m) (d := .int k) (neg := true) rfl (atvs_ints ns) rfl (flat_ints ns)
  rwa [inV_ints] at h
/-! tests and bools -/
theorem t_B (h : SE true te Γ C (tBo b)) : ST (tB te) Γ C b := fun F σ H S s Q q => h F σ H S s _ fun v H1 S1 g k => ⟨b, dp_bl k, q H1 S1 g⟩
theorem t_test (h : SE true te Γ C (tBo b)) : ST (tTest te) Γ C b := fun F σ H S s Q q => h F σ H S s _ fun v H1 S1 g k => ⟨b, dp_bl k, q H1 S1 g⟩
theorem t_BV (h : SE false te Γ C (tBo b)) : ST (tB te) Γ C b := t_B (e_atom h atom_bl)
theorem t_testV (h : SE false te Γ C (tBo b)) : ST (tTest te) Γ C b := t_test (e_atom h atom_bl)
theorem t_is {a : Bool} (h : ST t Γ C a) (e : a = b) : ST t Γ C b := e ▸ h
theorem t_not (h : ST t Γ C b) : ST (tNot t) Γ C (!b) := fun F σ H S s Q q => h F σ H S s _ fun H1 S1 g => q H1 S1 g
theorem t_and {a : Bool} (h1 : ST t Γ C a) (h2 : a = true → ST u Γ C b) : ST (tAnd t u) Γ C (a && b) := fun F σ H S s Q q => h1 F σ H S s _ fun H1 S1 g => by
  cases a with
  | true => exact iteT (h2 rfl F σ H1 S1 (s.grow g) Q fun H2 S2 g2 => q H2 S2 (g.trans g2))
  | false => exact iteF (q H1 S1 g)
theorem t_or {a : Bool} (h1 : ST t Γ C a) (h2 : a = false → ST u Γ C b) : ST (tOr t u) Γ C (a || b) := fun F σ H S s Q q => h1 F σ H S s _ fun H1 S1 g => by
  cases a with
  | true => exact iteT (q H1 S1 g)
  | false => exact iteF (h2 rfl F σ H1 S1 (s.grow g) Q fun H2 S2 g2 => q H2 S2 (g.trans g2))
theorem e_and {a : Bool} (h1 : SE true ta Γ C (tBo a)) (h2 : a = true → SE true tb Γ C (tBo b)) : SE true (tAndV ta tb) Γ C (tBo (a && b)) := fun F σ H S s Q q => h1 F σ H S s _ fun v H1 S1 g k => ⟨a, dp_bl k, by
  cases a with
  | true => exact iteT (h2 rfl F σ H1 S1 (s.grow g) Q fun z H2 S2 g2 k2 => q z H2 S2 (g.trans g2) k2)
  | false => exact iteF (q _ H1 S1 g (.bl _))⟩
theorem e_or {a : Bool} (h1 : SE true ta Γ C (tBo a)) (h2 : a = false → SE true tb Γ C (tBo b)) : SE true (tOrV ta tb) Γ C (tBo (a || b)) := fun F σ H S s Q q => h1 F σ H S s _ fun v H1 S1 g k => ⟨a, dp_bl k, by
  cases a with
  | true => exact iteT (q _ H1 S1 g (.bl _))
  | false => exact iteF (h2 rfl F σ H1 S1 (s.grow g) Q fun z H2 S2 g2 k2 => q z H2 S2 (g.trans g2) k2)⟩
theorem e_not (h : SE true ta Γ C (tBo b)) : SE true (tNotV ta) Γ C (tBo (!b)) := fun F σ H S s Q q => h F σ H S s _ fun v H1 S1 g k => ⟨b, dp_bl k, q _ H1 S1 g (.bl _)⟩
theorem e_if (h : ST t Γ C b) (h1 : b = true → SE m ta Γ C T) (h2 : b = false → SE m tb Γ C T) : SE m (tIf t ta tb) Γ C T := fun F σ H S s Q q => h F σ H S s _ fun H1 S1 g => by
  cases b with
  | true => exact iteT (h1 rfl F σ H1 S1 (s.grow g) Q fun z H2 S2 g2 k2 => q z H2 S2 (g.trans g2) k2)
  | false => exact iteF (h2 rfl F σ H1 S1 (s.grow g) Q fun z H2 S2 g2 k2 => q z H2 S2 (g.trans g2) k2)
def isNon : PyData → Bool
  | .none => true
  | _ => false
theorem isNon_dp {S : Hp} {d : PyData} {v : V} (k : Dq S v d) : decide (v = .non) = isNon d := by
  cases k <;> simp [isNon]
theorem e_isN {d : PyData} (h : SE true ta Γ C (tD d)) : SE true (tIsN ta) Γ C (tBo (isNon d)) := fun F σ H S s Q q => h F σ H S s _ fun v H1 S1 g k => by
  rw [isNon_dp k]; exact q _ H1 S1 g (.bl _)
theorem e_notN {d : PyData} (h : SE true ta Γ C (tD d)) : SE true (tNotN ta) Γ C (tBo (!isNon d)) := fun F σ H S s Q q => h F σ H S s _ fun v H1 S1 g k => by
  rw [isNon_dp k]; exact q _ H1 S1 g (.bl _)
/-! argument lists, displays -/
theorem a_nil : SA m tNil Γ C [] := fun F σ H S s Q q => q [] H S (Gr.refl s.sub) trivial
theorem a_cons {tr : TA} {Ts : List Ty} (h : SE m te Γ C T) (hr : SA m tr Γ C Ts) : SA m (tCons te tr) Γ C (T :: Ts) := fun F σ H S s Q q =>
  h F σ H S s _ fun v H1 S1 g1 k1 => hr F σ H1 S1 (s.grow g1) _ fun vs H2 S2 g2 k2 => q _ H2 S2 (g1.trans g2) ⟨T.mono (vw_same g2) k1, k2⟩
theorem a_is {ta : TA} {Ts Ts' : List Ty} (h : SA m ta Γ C Ts) (e : Ts = Ts') : SA m ta Γ C Ts' := e ▸ h
theorem Gr.settled {H S H1 S1 : Hp} (g : Gr0 H S H1 S1) {p : Addr} {o : HO} (hp : H p = none) (h1 : H1 p = some o) (h2 : S1 p = none) : Gr0 H S H1 (upd S1 p o) :=
  ⟨g.keep, g.there, g.s.trans (Sw.same_upd h2), (Gr.settle g.sub h1 h2).2, fun q u e => by
    by_cases c : q = p
    · subst c; exact .inr hp
    · rw [upd_ne c] at e; exact g.new q u e⟩
theorem e_ofO {ds : List PyData} (h : SO te Γ C ds) : SE true te Γ C (tLs ds) := fun F σ H S s Q q => h F σ H S s Q fun p vs H1 S1 g hp h1 h2 k =>
  q _ H1 (upd S1 p (.lst vs)) (g.settled hp h1 h2) (.lst upd_same (dps_mono (same_upd h2) _ _ k))
theorem e_tup {ta : TA} {ds : List PyData} (h : SA true ta Γ C (ds.map (tD))) (hl : ds.length ≤ 100000) : SE true (tTup ta) Γ C (tTp ds) := fun F σ H S s Q q => h F σ H S s _ fun vs H1 S1 g k => by
  have kd := Tys.data k
  refine ⟨by rw [dps_len kd]; exact Nat.le_trans hl (by decide), fun p hp => ?_⟩
  have g2 := Gr.allocS (M := M0) g.sub (o := .tup vs) hp
  exact q _ _ _ (g.trans g2) (.tup upd_same (dps_mono g2.s _ _ kd))
theorem o_lst {ta : TA} {ds : List PyData} (h : SA true ta Γ C (ds.map (tD))) (hl : ds.length ≤ 100000) : SO (tLst ta) Γ C ds := fun F σ H S s Q q => h F σ H S s _ fun vs H1 S1 g k => by
  have kd := Tys.data k
  refine ⟨by rw [dps_len kd]; exact Nat.le_trans hl (by decide), fun p hp => ?_⟩
  have g2 := Gr.alloc (M := M0) g.sub (o := .lst vs) hp
  exact q p vs _ _ (g.trans g2) (g.there _ hp) upd_same (same_none g.sub hp) kd
theorem ad_nil : SA true tNil Γ C (([] : List PyData).map (tD)) := a_nil
theorem ad_cons {tr : TA} {d : PyData} {ds : List PyData} (h : SE true te Γ C (tD d)) (hr : SA true tr Γ C (ds.map (tD))) : SA true (tCons te tr) Γ C ((d :: ds).map (tD)) := a_cons h hr
theorem e_lst {ta : TA} {ds : List PyData} (h : SA true ta Γ C (ds.map (tD))) (hl : ds.length ≤ 100000) : SE true (tLst ta) Γ C (tLs ds) := e_ofO (o_lst h hl)
/-! slices -/
def cutD (xs : List PyData) (lo hi : Option Int) : List PyData := (xs.drop (HT.sIx xs.length 0 lo)).take (HT.sIx xs.length xs.length hi - HT.sIx xs.length 0 lo)
theorem dps_cut {H : Hp} {ds : List PyData} {vs : List V} (h : DqAll H vs ds) (lo hi : Option Int) : DqAll H (cutV vs lo hi) (cutD ds lo hi) := by
  unfold cutV cutD
  rw [dps_len h]
  exact dps_take _ (dps_drop _ h)
theorem p_none : SP tNoPart Γ C none := fun _ _ H S s _ q => q H S (Gr.refl s.sub)
theorem p_int {i : Int} : SP (tPart (tC (.int i))) Γ C (some i) := fun _ _ H S s _ q => ⟨i, rfl, q H S (Gr.refl s.sub)⟩
theorem p_neg {i : Int} : SP (tPart (tUn (rU fun i => .int (-i)) (tC (.int i)))) Γ C (some (-i)) := fun _ _ H S s _ q => ⟨i, rfl, -i, rfl, q H S (Gr.refl s.sub)⟩
theorem p_some {i : Int} (h : SE true te Γ C (tI i)) : SP (tPart te) Γ C (some i) := fun F σ H S s _ q => h F σ H S s _ fun v H1 S1 g k => ⟨i, dp_int k, q H1 S1 g⟩
theorem o_sl {tl th : TO} {ds : List PyData} {lo hi : Option Int} (h : SE true te Γ C (tLs ds)) (h1 : SP tl Γ C lo) (h2 : SP th Γ C hi) : SO (tSl (rSlL K) te tl th) Γ C (cutD ds lo hi) := fun F σ H S s Q q =>
  h F σ H S s _ fun x H1 S1 g1 k1 => h1 F σ H1 S1 (s.grow g1) _ fun H2 S2 g2 => h2 F σ H2 S2 (s.grow (g1.trans g2)) _ fun H3 S3 g3 => by
    obtain ⟨a, xs, rfl, hs, ha⟩ := dp_lst (dp_mono (g2.trans g3).s _ _ k1)
    refine ⟨a, xs, rfl, SqL.of (g3.sub _ _ hs), fun p hp => ?_⟩
    have g := (g1.trans g2).trans g3
    have g4 := Gr.alloc (M := M0) g.sub (o := .lst (cutV xs lo hi)) hp
    exact q p _ _ _ (g.trans g4) (g.there _ hp) upd_same (same_none g.sub hp) (dps_cut ha lo hi)
/-- a slice of an own list -/
theorem o_slO {tl th : TO} {i : Nat} {p : Addr} {ds : List PyData} {lo hi : Option Int} (h : Γ[i]? = some (some (tV (.ref p)))) (hc : cL p ds ∈ C) (h1 : SP tl Γ C lo) (h2 : SP th Γ C hi) : SO (tSl (rSlL K) (tVar i) tl th) Γ C (cutD ds lo hi) := fun F σ H S s Q q => by
  obtain ⟨v, ev, kv⟩ := s.sl i _ h
  have kv : v = .ref p := kv
  subst kv
  refine ⟨_, ev, h1 F σ H S s _ fun H2 S2 g2 => h2 F σ H2 S2 (s.grow g2) _ fun H3 S3 g3 => ?_⟩
  have g := g2.trans g3
  obtain ⟨o, e1, e2, vs, rfl, e3⟩ := (s.grow g).cl.at_ _ hc
  refine ⟨p, vs, rfl, SqL.of e1, fun p' hp => ?_⟩
  have g4 := Gr.alloc (M := M0) g.sub (o := .lst (cutV vs lo hi)) hp
  exact q p' _ _ _ (g.trans g4) (g.there _ hp) upd_same (same_none g.sub hp) (dps_cut e3 lo hi)
theorem e_slT {tl th : TO} {ds : List PyData} {lo hi : Option Int} (h : SE true te Γ C (tTp ds)) (h1 : SP tl Γ C lo) (h2 : SP th Γ C hi) (hw : ¬ (HT.sIx ds.length 0 lo = 0 ∧ HT.sIx ds.length ds.length hi = ds.length)) : SE true (tSl (rSlT K) te tl th) Γ C (tTp (cutD ds lo hi)) := fun F σ H S s Q q =>
  h F σ H S s _ fun x H1 S1 g1 k1 => h1 F σ H1 S1 (s.grow g1) _ fun H2 S2 g2 => h2 F σ H2 S2 (s.grow (g1.trans g2)) _ fun H3 S3 g3 => by
    obtain ⟨a, xs, rfl, hs, ha⟩ := dp_tup (dp_mono (g2.trans g3).s _ _ k1)
    refine ⟨a, xs, rfl, SqT.of (g3.sub _ _ hs), by rw [dps_len ha]; exact hw, fun p hp => ?_⟩
    have g := (g1.trans g2).trans g3
    have g4 := Gr.allocS (M := M0) g.sub (o := .tup (cutV xs lo hi)) hp
    exact q _ _ _ (g.trans g4) (.tup upd_same (dps_cut (dps_mono g4.s _ _ ha) lo hi))
/-! calls of builtins by values -/
theorem e_cb {r : List V → Hp → VK → Prop} {ta : TA} {Ts : List Ty} (h : SA m ta Γ C Ts) (hr : RCk m r Ts T) : SE m (tCB r ta) Γ C T := fun F σ H S s Q q =>
  h F σ H S s _ fun vs H1 S1 g k => hr vs H1 S1 g.sub k Q fun z H2 S2 g2 k2 => q z H2 S2 (g.trans g2) k2
theorem o_cb {r : List V → Hp → VK → Prop} {ta : TA} {Ts : List Ty} {ds : List PyData} (h : SA m ta Γ C Ts) (hr : RCo m r Ts ds) : SO (tCB r ta) Γ C ds := fun F σ H S s Q q =>
  h F σ H S s _ fun vs H1 S1 g k => hr vs H1 S1 g.sub k Q fun p us H2 S2 g2 hp h1 h2 k2 => q p us H2 S2 (g.trans g2) (g.there _ hp) h1 h2 k2
def rLenS (K : PySem.W.Frag) : List V → Hp → VK → Prop := fun xs H Q => ∃ p ys, xs = [.ref p] ∧ (SqL K H p ys ∨ SqT K H p ys) ∧ Q (.int ys.length) H
def rListS (K : PySem.W.Frag) : List V → Hp → VK → Prop := fun xs H Q => ∃ p ys, xs = [.ref p] ∧ (SqL K H p ys ∨ SqT K H p ys) ∧ ∀ l, H l = none → Q (.ref l) (upd H l (.lst ys))
theorem tys1 {S : Hp} {T : Ty} {vs : List V} (h : Tys S [T] vs) : ∃ v, vs = [v] ∧ T.ok S v := by
  match vs, h with
  | [v], h => exact ⟨v, rfl, h.1⟩
theorem tys2 {S : Hp} {T T' : Ty} {vs : List V} (h : Tys S [T, T'] vs) : ∃ v w, vs = [v, w] ∧ T.ok S v ∧ T'.ok S w := by
  match vs, h with
  | [v, w], h => exact ⟨v, w, rfl, h.1, h.2.1⟩
theorem c_lenL {ds : List PyData} : RCk m (rLenS K) [tLs ds] (tI (ds.length : Int)) := fun vs H S s h Q q => by
  obtain ⟨v, rfl, k⟩ := tys1 h
  obtain ⟨a, xs, rfl, h1, h2⟩ := dp_lst k
  exact ⟨a, xs, rfl, .inl (SqL.of (vw_sub s _ _ h1)), by rw [dps_len h2]; exact q _ H S (Gr.refl s) (.int _)⟩
theorem c_lenT {ds : List PyData} : RCk m (rLenS K) [tTp ds] (tI (ds.length : Int)) := fun vs H S s h Q q => by
  obtain ⟨v, rfl, k⟩ := tys1 h
  obtain ⟨a, xs, rfl, h1, h2⟩ := dp_tup k
  exact ⟨a, xs, rfl, .inr (SqT.of (vw_sub s _ _ h1)), by rw [dps_len h2]; exact q _ H S (Gr.refl s) (.int _)⟩
theorem c_listL {ds : List PyData} : RCo true (rListS K) [tLs ds] ds := fun vs H S s h Q q => by
  obtain ⟨v, rfl, k⟩ := tys1 h
  obtain ⟨a, xs, rfl, h1, h2⟩ := dp_lst k
  refine ⟨a, xs, rfl, .inl (SqL.of (s _ _ h1)), fun l hl => ?_⟩
  have g := Gr.alloc (M := M0) s (o := .lst xs) hl
  exact q l xs _ _ g hl upd_same (same_none s hl) h2
theorem c_listT {ds : List PyData} : RCo true (rListS K) [tTp ds] ds := fun vs H S s h Q q => by
  obtain ⟨v, rfl, k⟩ := tys1 h
  obtain ⟨a, xs, rfl, h1, h2⟩ := dp_tup k
  refine ⟨a, xs, rfl, .inr (SqT.of (s _ _ h1)), fun l hl => ?_⟩
  have g := Gr.alloc (M := M0) s (o := .lst xs) hl
  exact q l xs _ _ g hl upd_same (same_none s hl) h2
/-- list(own) of atoms -/
theorem c_listA {ds : List PyData} {ws : List V} (hw : atvs ds = some ws) : RCo m (rListS K) [tLs ds] ds := fun vs H S s h Q q => by
  obtain ⟨v, rfl, k⟩ := tys1 h
  obtain ⟨a, xs, rfl, h1, h2⟩ := dp_lst k
  refine ⟨a, xs, rfl, .inl (SqL.of (vw_sub s _ _ h1)), fun l hl => ?_⟩
  have g := Gr.alloc (M := M0) s (o := .lst xs) hl
  refine q l xs _ _ g hl upd_same (same_none s hl) ?_
  have : ∀ {ds : List PyData} {vs : List V} {ws : List V} {A B : Hp}, DqAll A vs ds → atvs ds = some ws → DqAll B vs ds := by
    intro ds
    induction ds with
    | nil => intro vs ws A B h _; cases h; exact .nil
    | cons d ds ih =>
      intro vs ws A B h e
      cases h with
      | cons h1 h2 =>
        unfold atvs at e
        split at e
        · rename_i v vs e1 e2
          refine .cons ?_ (ih h2 e2)
          have hv := atv_dp h1 e1
          subst hv
          cases h1 with
          | non => exact .non
          | bl b => exact .bl b
          | int i => exact .int i
          | str x => exact .str x
          | lst _ _ => simp [atv] at e1
          | tup _ _ => simp [atv] at e1
        · cases e
  exact this h2 hw
theorem c_abs {i : Int} : RCk m (fun xs H Q => ∃ i, xs = [.int i] ∧ Q (.int (if i < 0 then -i else i)) H) [tI i] (tI (if i < 0 then -i else i)) := fun vs H S s h Q q => by
  obtain ⟨v, rfl, k⟩ := tys1 h
  exact ⟨i, by rw [dp_int k], q _ H S (Gr.refl s) (.int _)⟩
theorem c_max2 {i j : Int} : RCk m (fun xs H Q => ∃ i j, xs = [.int i, .int j] ∧ Q (.int (if j > i then j else i)) H) [tI i, tI j] (tI (if j > i then j else i)) := fun vs H S s h Q q => by
  obtain ⟨v, w, rfl, k, k'⟩ := tys2 h
  exact ⟨i, j, by rw [dp_int k, dp_int k'], q _ H S (Gr.refl s) (.int _)⟩
theorem c_intB {b : Bool} : RCk m (fun xs H Q => (∃ i, xs = [.int i] ∧ Q (.int i) H) ∨ ∃ k, xs = [.bl k] ∧ Q (.int (if k then 1 else 0)) H) [tBo b] (tI (if b then 1 else 0)) := fun vs H S s h Q q => by
  obtain ⟨v, rfl, k⟩ := tys1 h
  exact .inr ⟨b, by rw [dp_bl k], q _ H S (Gr.refl s) (.int _)⟩
theorem c_all {bs : List Bool} : RCk m (rAll K) [tLs (bs.map .bool)] (tBo (bs.all id)) := fun vs H S s h Q q => by
  obtain ⟨v, rfl, k⟩ := tys1 h
  obtain ⟨a, xs, rfl, h1, h2⟩ := dp_lst k
  rw [dps_bls h2] at h1
  exact ⟨a, bs, rfl, SqL.of (vw_sub s _ _ h1), q _ H S (Gr.refl s) (.bl _)⟩
theorem c_any {bs : List Bool} : RCk m (rAny K) [tLs (bs.map .bool)] (tBo (bs.any id)) := fun vs H S s h Q q => by
  obtain ⟨v, rfl, k⟩ := tys1 h
  obtain ⟨a, xs, rfl, h1, h2⟩ := dp_lst k
  rw [dps_bls h2] at h1
  exact ⟨a, bs, rfl, SqL.of (vw_sub s _ _ h1), q _ H S (Gr.refl s) (.bl _)⟩
end

/-! ### promises -/
/-- a pure def: it hands back something settled -/
def spP {α : Type} (args : α → List Ty) (cond : α → Prop) (res : α → Ty) : Sp := fun vs H Q _ => ∃ (a : α) (S : Hp), Same S H ∧ Tys S (args a) vs ∧ cond a ∧ ∀ v H' S', Gr0 H S H' S' → (res a).ok S' v → Q v H'
/-- a pure def: it hands back a new list, its items settled -/
def spO {α : Type} (args : α → List Ty) (cond : α → Prop) (res : α → List PyData) : Sp := fun vs H Q _ => ∃ (a : α) (S : Hp), Same S H ∧ Tys S (args a) vs ∧ cond a ∧
  ∀ p us H' S', Gr0 H S H' S' → H p = none → H' p = some (.lst us) → S' p = none → DqAll S' us (res a) → Q (.ref p) H'
section
variable {K : PySem.W.Frag} {m : Bool} {Γ : List Sl} {C : List Cell} {T : Ty} {α : Type} {args : α → List Ty} {cond : α → Prop} {res : α → Ty} {resO : α → List PyData} {E : XK} {ta : TA} {Ts : List Ty}
theorem e_call (a : α) (h : SA true ta Γ C Ts) (hT : Ts = args a) (hc : cond a) : SE true (tCall (spP args cond res) [] E ta) Γ C (res a) := fun F σ H S s Q q => h F σ H S s _ fun vs H1 S1 g k => by
  subst hT
  rw [List.append_nil]
  exact ⟨a, S1, g.sub, k, hc, fun v H2 S2 g2 k2 => q v H2 S2 (g.trans g2) k2⟩
/-- with own lists among the arguments, an atom back -/
theorem e_callA (a : α) (h : SA false ta Γ C Ts) (hT : Ts = args a) (hc : cond a) (hA : Atom (res a)) : SE m (tCall (spP args cond res) [] E ta) Γ C (res a) := fun F σ H S s Q q => h F σ H S s _ fun vs H1 S1 g k => by
  subst hT
  rw [List.append_nil]
  refine ⟨a, H1, Same.refl _, k, hc, fun v H2 S2 g2 k2 => q v H2 S1 (g.trans ⟨g2.keep, g2.there, Same.refl _, g.sub.trans g2.same, fun _ _ z => .inl z⟩) (hA _ _ _ k2)⟩
theorem o_call (a : α) (h : SA true ta Γ C Ts) (hT : Ts = args a) (hc : cond a) : SO (tCall (spO args cond resO) [] E ta) Γ C (resO a) := fun F σ H S s Q q => h F σ H S s _ fun vs H1 S1 g k => by
  subst hT
  rw [List.append_nil]
  exact ⟨a, S1, g.sub, k, hc, fun p us H2 S2 g2 hp h1 h2 k2 => q p us H2 S2 (g.trans g2) (g.there _ hp) h1 h2 k2⟩
end
end Sw
/-! statements, targets, walks, comprehensions; defs -/
namespace Sw
open PySem L2

structure Out where
  nx : L2.St → Hp → Hp → Prop
  rt : V → Hp → Hp → Prop
  bk : L2.St → Hp → Hp → Prop := fun _ _ _ => False
  ct : L2.St → Hp → Hp → Prop := fun _ _ _ => False
  /-- what is wished of an exception, and what is known where one leaves -/
  W : WX := fun _ _ _ _ => False
  xc : Value → Option Addr → L2.St → Hp → Hp → Prop := fun _ _ _ _ _ => False
structure OutOk (S0 : Hp) (O : Out) (D : Ends) : Prop where
  nx : ∀ σ H S, Same S0 S → O.nx σ H S → D.nx σ H
  rt : ∀ v H S, Same S0 S → O.rt v H S → D.rt v H
  bk : ∀ σ H S, Same S0 S → O.bk σ H S → D.bk σ H
  ct : ∀ σ H S, Same S0 S → O.ct σ H S → D.ct σ H
  xc : ∀ cls d σ H S, Same S0 S → O.xc cls d σ H S → O.W cls d σ H
theorem OutOk.grow {S S1 : Hp} {O : Out} {D : Ends} (e : Same S S1) (o : OutOk S O D) : OutOk S1 O D :=
  ⟨fun σ H S2 e2 h => o.nx σ H S2 (e.trans e2) h, fun v H S2 e2 h => o.rt v H S2 (e.trans e2) h, fun σ H S2 e2 h => o.bk σ H S2 (e.trans e2) h, fun σ H S2 e2 h => o.ct σ H S2 (e.trans e2) h, fun c d σ H S2 e2 h => o.xc c d σ H S2 (e.trans e2) h⟩
def SS (F : Fr0) (t : TS) (Γ : List Sl) (C : List Cell) (O : Out) : Prop := ∀ (σ : L2.St) (H S : Hp), Stt F Γ C σ H S → ∀ D : Ends, OutOk S O D → t D σ H
/-- a target: from Γ, a value of type T, to Γ'; the places it stores to are among vs -/
def SG (g : TG) (Γ : List Sl) (T : Ty) (Γ' : List Sl) (vs : List Nat) : Prop := ∀ (F : Fr0) (C : List Cell) (σ : L2.St) (H S : Hp) (v : V), Stt F Γ C σ H S → T.ok S v → ∀ Q : L2.St → Hp → Prop,
  (∀ σ', Stt F Γ' C σ' H S → (∀ ws : List Nat, (∀ i ∈ vs, i ∈ ws) → wipe σ' ws = wipe σ ws) → Q σ' H) → g v σ H Q
def SGs (g : TGs) (Γ : List Sl) (Ts : List Ty) (Γ' : List Sl) (vs : List Nat) : Prop := ∀ (F : Fr0) (C : List Cell) (σ : L2.St) (H S : Hp) (us : List V), Stt F Γ C σ H S → Tys S Ts us → ∀ Q : L2.St → Hp → Prop,
  (∀ σ', Stt F Γ' C σ' H S → (∀ ws : List Nat, (∀ i ∈ vs, i ∈ ws) → wipe σ' ws = wipe σ ws) → Q σ' H) → g us σ H Q
/-- what a walk over the data xs is -/
def WkOk {β : Type} (J : It) (S : Hp) (xs : List β) (ty : β → Ty) : Prop := ∃ (G : Hp → Prop) (Y : Nat → Hp → V → Hp → Prop), Walk J xs.length G Y ∧ (∀ H2 S2, Same S S2 → Same S2 H2 → G H2) ∧
  ∀ i b x H2 S2 H3, xs[i]? = some b → Same S S2 → Same S2 H2 → Y i H2 x H3 → ∃ S3, Gr0 H2 S2 H3 S3 ∧ (ty b).ok S3 x
def SW {β : Type} (wi : TI) (Γ : List Sl) (C : List Cell) (xs : List β) (ty : β → Ty) : Prop := ∀ (F : Fr0) (σ : L2.St) (H S : Hp), Stt F Γ C σ H S → ∀ R : It → Hp → Prop, (∀ J H' S', Gr0 H S H' S' → WkOk J S' xs ty → R J H') → wi σ H R

section
variable {K : PySem.W.Frag} {F : Fr0} {Γ Γ' Γ1 : List Sl} {C C' : List Cell} {O : Out} {t t1 t2 u s1 s2 : TS} {te to ti : TE} {c : TT} {T : Ty} {b : Bool} {ds : List PyData} {i : Nat}

theorem wipe_set {σ : L2.St} {i : Nat} {v : V} : ∀ {ws : List Nat}, i ∈ ws → wipe (σ.set i (some v)) ws = wipe σ ws
  | [], h => (nomatch h)
  | w :: ws, h => by
    unfold wipe
    by_cases hi : i ∈ ws
    · rw [wipe_set hi]
    · have e : i = w := (List.mem_cons.mp h).resolve_right hi
      subst e
      have key : ∀ {ws : List Nat}, i ∉ ws → wipe (σ.set i (some v)) ws = (wipe σ ws).set i (some v) := by
        intro ws
        induction ws with
        | nil => intro _; rfl
        | cons w ws ih =>
          intro h
          have hw : w ≠ i := fun e => h (by rw [e]; exact List.mem_cons_self)
          unfold wipe
          rw [ih fun z => h (List.mem_cons_of_mem _ z), List.set_comm _ _ hw]
      rw [key hi, List.set_set]
theorem g_name : SG (gName i) Γ T (Γ.set i (some T)) [i] := fun F C σ H S v s k Q q => q _ (s.set k) fun ws h => wipe_set (h i List.mem_cons_self)
theorem gs_nil : SGs gNil Γ [] Γ [] := fun F C σ H S us s k Q q => by
  match us, k with
  | [], _ => exact ⟨rfl, q σ s fun _ _ => rfl⟩
theorem gs_cons {g : TG} {gs : TGs} {Ts : List Ty} {vs ws : List Nat} (h : SG g Γ T Γ1 vs) (hs : SGs gs Γ1 Ts Γ' ws) : SGs (gCons g gs) Γ (T :: Ts) Γ' (vs ++ ws) := fun F C σ H S us s k Q q => by
  match us, k with
  | v :: us, k =>
    refine ⟨v, us, rfl, h F C σ H S v s k.1 _ fun σ1 s1 w1 => hs F C σ1 H S us s1 k.2 _ fun σ2 s2 w2 => q σ2 s2 fun zs hz => ?_⟩
    rw [w2 zs fun i hi => hz i (List.mem_append_right _ hi), w1 zs fun i hi => hz i (List.mem_append_left _ hi)]
theorem tys_of : ∀ {ds : List PyData} {us : List V} {S : Hp}, DqAll S us ds → Tys S (ds.map (tD)) us
  | [], _, _, h => by cases h; trivial
  | d :: ds, _, _, h => by
    cases h with
    | cons h1 h2 => exact ⟨h1, tys_of h2⟩
theorem g_tup {gs : TGs} {n : Nat} {vs : List Nat} (h : SGs gs Γ (ds.map (tD)) Γ' vs) (hn : ds.length = n) : SG (gTup K n gs) Γ (tTp ds) Γ' vs := fun F C σ H S v s k Q q => by
  obtain ⟨a, xs, rfl, h1, h2⟩ := dp_tup k
  exact ⟨a, xs, rfl, SqT.of (s.sub _ _ h1), by rw [dps_len h2]; exact hn, h F C σ H S xs s (tys_of h2) Q q⟩
theorem g_unl {gs : TGs} {n : Nat} {vs : List Nat} (h : SGs gs Γ (ds.map (tD)) Γ' vs) (hn : ds.length = n) : SG (gUnl K n gs) Γ (tLs ds) Γ' vs := fun F C σ H S v s k Q q => by
  obtain ⟨a, xs, rfl, h1, h2⟩ := dp_lst k
  exact ⟨a, xs, rfl, SqL.of (s.sub _ _ h1), by rw [dps_len h2]; exact hn, h F C σ H S xs s (tys_of h2) Q q⟩

/-! blocks -/
theorem ss_weak (hl : leG Γ Γ') (h : SS F t Γ' C O) : SS F t Γ C O := fun σ H S s D o => h σ H S (s.weak hl) D o
theorem ss_perm (hp : C.Perm C') (h : SS F t Γ C' O) : SS F t Γ C O := fun σ H S s D o => h σ H S (s.perm hp) D o
theorem ss_nil (h : ∀ σ H S, Stt F Γ C σ H S → O.nx σ H S) : SS F tNext Γ C O := fun σ H S s D o => o.nx σ H S (Same.refl S) (h σ H S s)
theorem ss_assoc (h : SS F (tSeq s1 (tSeq s2 u)) Γ C O) : SS F (tSeq (tSeq s1 s2) u) Γ C O := h
theorem ss_next (h : SS F u Γ C O) : SS F (tSeq tNext u) Γ C O := h
theorem ss_set (he : SE true te Γ C T) (h : SS F u (Γ.set i (some T)) C O) : SS F (tSeq (tAsg te (gName i)) u) Γ C O := fun σ H S s D o =>
  he F σ H S s _ fun v H1 S1 g k => h (σ.set i (some v)) H1 S1 ((s.grow g).set k) D (o.grow g.s)
theorem ss_setO (he : SO te Γ C ds) (h : ∀ p, (∀ x ∈ C, x.p ≠ p) → F.H p = none → SS F u (Γ.set i (some (tV (.ref p)))) (cL p ds :: C) O) : SS F (tSeq (tAsg te (gName i)) u) Γ C O := fun σ H S s D o =>
  he F σ H S s _ fun p vs H1 S1 g hp h1 h2 k => h p (fun x hx e => by
    obtain ⟨o, q, _⟩ := s.cl.at_ x hx
    rw [e, hp] at q; cases q) (s.g.there _ hp) (σ.set i (some (.ref p))) H1 S1 ((s.new (c := cL p ds) g hp h1 h2 ⟨vs, rfl, k⟩).set (T := tV (.ref p)) rfl) D (o.grow g.s)
theorem ss_asg {g : TG} {vs : List Nat} (he : SE true te Γ C T) (hg : SG g Γ T Γ' vs) (h : SS F u Γ' C O) : SS F (tSeq (tAsg te g) u) Γ C O := fun σ H S s D o =>
  he F σ H S s _ fun v H1 S1 gr k => hg F C σ H1 S1 v (s.grow gr) k _ fun σ' s' _ => h σ' H1 S1 s' D (o.grow gr.s)
theorem ss_par {j : Nat} {ta : TA} {T' : Ty} (he : SA true ta Γ C [T, T']) (h : SS F u ((Γ.set i (some T)).set j (some T')) C O) : SS F (tSeq (tPar i j ta) u) Γ C O := fun σ H S s D o =>
  he F σ H S s _ fun vs H1 S1 g k => by
    obtain ⟨v, w, rfl, k1, k2⟩ := tys2 k
    exact ⟨v, w, rfl, h _ H1 S1 (((s.grow g).set k1).set k2) D (o.grow g.s)⟩
theorem ss_ret (he : SE true te Γ C T) (h : ∀ v σ H S, Stt F Γ C σ H S → T.ok S v → O.rt v H S) : SS F (tSeq (tRet te) u) Γ C O := fun σ H S s D o =>
  he F σ H S s _ fun v H1 S1 g k => o.rt v H1 S1 g.s (h v σ H1 S1 (s.grow g) k)
theorem ss_retO (he : SO te Γ C ds) (h : ∀ p vs σ H S, Stt F Γ C σ H S → F.H p = none → H p = some (.lst vs) → S p = none → DqAll S vs ds → O.rt (.ref p) H S) : SS F (tSeq (tRet te) u) Γ C O := fun σ H S s D o =>
  he F σ H S s _ fun p vs H1 S1 g hp h1 h2 k => o.rt _ H1 S1 g.s (h p vs σ H1 S1 (s.grow g) (s.g.there _ hp) h1 h2 k)
theorem ss_retN (h : ∀ σ H S, Stt F Γ C σ H S → O.rt .non H S) : SS F (tSeq tRetN u) Γ C O := fun σ H S s D o => o.rt _ H S (Same.refl S) (h σ H S s)
theorem ss_if (hc : ST c Γ C b) (h1 : b = true → SS F (tSeq t1 u) Γ C O) (h2 : b = false → SS F (tSeq t2 u) Γ C O) : SS F (tSeq (tIfS c t1 t2) u) Γ C O := fun σ H S s D o => hc F σ H S s _ fun H1 S1 g => by
  cases b with
  | true => exact iteT (h1 rfl σ H1 S1 (s.grow g) D (o.grow g.s))
  | false => exact iteF (h2 rfl σ H1 S1 (s.grow g) D (o.grow g.s))
/-- the branches join -/
theorem ss_ifJ (Γ' : List Sl) (C' : List Cell) (hc : ST c Γ C b) (h1 : b = true → SS F t1 Γ C { O with nx := fun σ H S => Stt F Γ' C' σ H S }) (h2 : b = false → SS F t2 Γ C { O with nx := fun σ H S => Stt F Γ' C' σ H S }) (h : SS F u Γ' C' O) :
    SS F (tSeq (tIfS c t1 t2) u) Γ C O := fun σ H S s D o => hc F σ H S s _ fun H1 S1 g => by
  have o' : OutOk S1 { O with nx := fun σ H S => Stt F Γ' C' σ H S } { D with nx := u D } :=
    ⟨fun σ H2 S2 e s => h σ H2 S2 s D ((o.grow g.s).grow e), (o.grow g.s).rt, (o.grow g.s).bk, (o.grow g.s).ct, (o.grow g.s).xc⟩
  cases b with
  | true => exact iteT (h1 rfl σ H1 S1 (s.grow g) _ o')
  | false => exact iteF (h2 rfl σ H1 S1 (s.grow g) _ o')
theorem ss_drop (he : SE true te Γ C T) (h : SS F u Γ C O) : SS F (tSeq (tDrop te) u) Γ C O := fun σ H S s D o =>
  he F σ H S s _ fun v H1 S1 g k => h σ H1 S1 (s.grow g) D (o.grow g.s)
theorem ss_cont (h : ∀ σ H S, Stt F Γ C σ H S → O.ct σ H S) : SS F (tSeq tCont u) Γ C O := fun σ H S s D o => o.ct σ H S (Same.refl S) (h σ H S s)
/-- x += e -/
theorem ss_aug {te : TE} {f : Int → Int → Int} {n k : Int} (hx : Γ[i]? = some (some (tI n))) (he : SE true te Γ C (tI k)) (h : SS F u (Γ.set i (some (tI (f n k)))) C O) : SS F (tSeq (tAug i te (ipI f)) u) Γ C O := fun σ H S s D o => by
  obtain ⟨v, e, kv⟩ := s.sl i _ hx
  rw [dp_int kv] at e
  exact ⟨_, e, he F σ H S s _ fun w H1 S1 g k1 => ⟨n, k, rfl, dp_int k1, h _ H1 S1 ((s.grow g).set (T := tI (f n k)) (.int _)) D (o.grow g.s)⟩⟩
/-- xs.append(e), xs an own list at the cells' head -/
theorem ss_app {p : Addr} {d : PyData} {T' : String} (hx : Γ[i]? = some (some (tV (.ref p)))) (he : SE true te Γ (cL p ds :: C) (tD d)) (hl : ds.length < 100000) (h : SS F u Γ (cL p (ds ++ [d]) :: C) O) (hT : T' = "list") :
    SS F (tSeq (tDrop (tBM K T' rAppend (tVar i) (tCons te tNil))) u) Γ (cL p ds :: C) O := fun σ H S s D o => by
  subst hT
  obtain ⟨v, ev, kv⟩ := s.sl i _ hx
  have kv : v = .ref p := kv
  subst kv
  obtain ⟨o1, q1, q2, vs1, rfl, q3⟩ := s.cl.head
  refine ⟨_, ev, .inl ⟨rfl, _, SqL.of q1⟩, he F σ H S s _ fun w H1 S1 g k => ?_⟩
  have s1 := s.grow g
  obtain ⟨o2, e1, e2, vs, rfl, e3⟩ := s1.cl.head
  refine ⟨p, vs, w, rfl, rfl, e1, by rw [dps_len e3]; exact Nat.lt_of_lt_of_le hl (by decide), ?_⟩
  exact h σ _ S1 (s1.write (c' := cL p (ds ++ [d])) rfl ⟨_, rfl, dps_app e3 (.cons k .nil)⟩) D (o.grow g.s)
/-- xs[k] = e, xs an own list at the cells' head -/
theorem ss_setItem {p : Addr} {d : PyData} {k : Int} {n : Nat} (hx : Γ[i]? = some (some (tV (.ref p)))) (he : SE true te Γ (cL p ds :: C) (tD d)) (hi : SE true ti Γ (cL p ds :: C) (tI k)) (hk : ixN ds.length k = some n) (h : SS F u Γ (cL p (ds.set n d) :: C) O) :
    SS F (tSeq (tAsg te (gSub (tVar i) ti rSetL)) u) Γ (cL p ds :: C) O := fun σ H S s D o => he F σ H S s _ fun w H1 S1 g1 k1 => by
  obtain ⟨v, ev, kv⟩ := (s.grow g1).sl i _ hx
  have kv : v = .ref p := kv
  subst kv
  refine ⟨_, ev, hi F σ H1 S1 (s.grow g1) _ fun z H2 S2 g2 k2 => ?_⟩
  have s2 := s.grow (g1.trans g2)
  obtain ⟨o2, e1, e2, vs, rfl, e3⟩ := s2.cl.head
  refine ⟨p, vs, k, n, rfl, dp_int k2, e1, by rw [dps_len e3]; exact hk, ?_⟩
  exact h σ _ S2 (s2.write (c' := cL p (ds.set n d)) rfl ⟨_, rfl, dps_set (dp_mono g2.s _ _ k1) n e3⟩) D (o.grow (g1.trans g2).s)
/-- an own list settles: slot i -/
theorem ss_settle (i : Nat) {p : Addr} (hx : Γ[i]? = some (some (tV (.ref p)))) (hn : F.H p = none) (h : SS F u (Γ.set i (some (tLs ds))) C O) : SS F u Γ (cL p ds :: C) O := fun σ H S s D o => by
  obtain ⟨v, ev, kv⟩ := s.sl i _ hx
  have kv : v = .ref p := kv
  subst kv
  obtain ⟨ob, h1, ⟨vs, rfl, h3⟩, h4, s1⟩ := s.settle hn
  have s2 : Stt F (Γ.set i (some (tLs ds))) C (σ.set i (some (.ref p))) H (upd S p (.lst vs)) := s1.set (.lst upd_same (dps_mono (same_upd h4) _ _ h3))
  have e : σ.set i (some (.ref p)) = σ := by
    obtain ⟨hl, e⟩ := List.getElem?_eq_some_iff.mp ev
    rw [← e, List.set_getElem_self]
  rw [e] at s2
  exact h σ H _ s2 D (o.grow (same_upd h4))

/-! walks -/
theorem dps_at {S : Hp} {ds : List PyData} {vs : List V} {i : Nat} {d : PyData} {x : V} (h : DqAll S vs ds) (e : ds[i]? = some d) (ex : vs[i]? = some x) : Dq S x d := by
  obtain ⟨v, e1, e2⟩ := dps_get h e
  rw [ex] at e1; cases e1
  exact e2
theorem w_list (h : SE true te Γ C (tLs ds)) : SW (iList K te) Γ C ds (tD) := fun F σ H S s R q => h F σ H S s _ fun v H1 S1 g k => by
  obtain ⟨a, xs, rfl, h1, h2⟩ := dp_lst k
  refine ⟨a, rfl, ⟨xs, SqL.of (g.sub _ _ h1)⟩, q _ H1 S1 g ⟨_, _, dps_len h2 ▸ walk_list (a := a) (xs := xs), fun H2 S2 e1 e2 => SqL.of ((e1.trans e2) _ _ h1), fun i b x H2 S2 H3 hb e1 e2 y => ?_⟩⟩
  obtain ⟨rfl, hx⟩ := y
  exact ⟨S2, Gr.refl e2, dp_mono e1 _ _ (dps_at h2 hb hx)⟩
theorem w_tup (h : SE true te Γ C (tTp ds)) : SW (iTup K te) Γ C ds (tD) := fun F σ H S s R q => h F σ H S s _ fun v H1 S1 g k => by
  obtain ⟨a, xs, rfl, h1, h2⟩ := dp_tup k
  refine ⟨a, rfl, ⟨xs, SqT.of (g.sub _ _ h1)⟩, q _ H1 S1 g ⟨_, _, dps_len h2 ▸ walk_tup (a := a) (xs := xs), fun H2 S2 e1 e2 => SqT.of ((e1.trans e2) _ _ h1), fun i b x H2 S2 H3 hb e1 e2 y => ?_⟩⟩
  obtain ⟨rfl, hx⟩ := y
  exact ⟨S2, Gr.refl e2, dp_mono e1 _ _ (dps_at h2 hb hx)⟩
theorem range_at {n i b : Nat} (h : (List.range n)[i]? = some b) : b = i := by
  obtain ⟨h1, h2⟩ := List.getElem?_eq_some_iff.mp h
  simp at h2; exact h2.symm
theorem w_range1 {ta : TA} {j : Int} (h : SA true ta Γ C [tI j]) (h1 : -(2 ^ 62) ≤ j) (h2 : j < 2 ^ 62) : SW (iRng1 ta) Γ C (List.range j.toNat) (fun k => tI (k : Int)) := fun F σ H S s R q => h F σ H S s _ fun vs H1 S1 g k => by
  obtain ⟨v, rfl, kv⟩ := tys1 k
  refine ⟨j, by rw [dp_int kv], h1, h2, q _ H1 S1 g ⟨_, _, (by rw [List.length_range]; exact walk_range), fun _ _ _ _ => trivial, fun i b x H2 S2 H3 hb e1 e2 y => ?_⟩⟩
  obtain ⟨rfl, rfl⟩ := y
  refine ⟨S2, Gr.refl e2, ?_⟩
  rw [range_at hb]
  show Dq S2 (.int (0 + (i : Int))) (.int (i : Int))
  rw [Int.zero_add]
  exact .int _
theorem w_range2 {ta : TA} {lo hi : Int} (h : SA true ta Γ C [tI lo, tI hi]) (hb : -(2 ^ 62) ≤ lo ∧ lo < 2 ^ 62 ∧ -(2 ^ 62) ≤ hi ∧ hi < 2 ^ 62) : SW (iRng2 ta) Γ C (List.range (hi - lo).toNat) (fun k => tI (lo + (k : Int))) := fun F σ H S s R q => h F σ H S s _ fun vs H1 S1 g k => by
  obtain ⟨v, w, rfl, kv, kw⟩ := tys2 k
  refine ⟨lo, hi, by rw [dp_int kv, dp_int kw], hb, q _ H1 S1 g ⟨_, _, (by rw [List.length_range]; exact walk_range), fun _ _ _ _ => trivial, fun i b x H2 S2 H3 hb e1 e2 y => ?_⟩⟩
  obtain ⟨rfl, rfl⟩ := y
  refine ⟨S2, Gr.refl e2, ?_⟩
  rw [range_at hb]
  exact .int _
theorem w_rev {ta : TA} (h : SA true ta Γ C [tLs ds]) : SW (iRev K ta) Γ C ds.reverse (tD) := fun F σ H S s R q => h F σ H S s _ fun vs H1 S1 g k => by
  obtain ⟨v, rfl, kv⟩ := tys1 k
  obtain ⟨a, xs, rfl, h1, h2⟩ := dp_lst kv
  refine ⟨a, xs, rfl, SqL.of (g.sub _ _ h1), q _ H1 S1 g ⟨_, _, (by rw [List.length_reverse, ← dps_len h2]; exact walk_rev (a := a) (xs := xs)), fun H2 S2 e1 e2 => SqL.of ((e1.trans e2) _ _ h1), fun i b x H2 S2 H3 hb e1 e2 y => ?_⟩⟩
  obtain ⟨rfl, hx⟩ := y
  refine ⟨S2, Gr.refl e2, dp_mono e1 _ _ (dps_at h2 ?_ hx)⟩
  have hi : i < ds.length := by
    have := (List.getElem?_eq_some_iff.mp hb).1
    simpa using this
  rw [List.getElem?_reverse hi] at hb
  rw [dps_len h2]; exact hb
theorem dp_pair {S : Hp} {H : Hp} {p : Addr} {x y : V} {d e : PyData} (hx : Dq S x d) (hy : Dq S y e) (hp : S p = none) : Dq (upd S p (.tup [x, y])) (.ref p) (.tuple [d, e]) :=
  .tup upd_same (.cons (dp_mono (same_upd hp) _ _ hx) (.cons (dp_mono (same_upd hp) _ _ hy) .nil))
theorem w_zip {ta : TA} {ds es : List PyData} (h : SA true ta Γ C [tLs ds, tLs es]) : SW (iZip K ta) Γ C (ds.zip es) (fun p => tTp [p.1, p.2]) := fun F σ H S s R q => h F σ H S s _ fun vs H1 S1 g k => by
  obtain ⟨v, w, rfl, kv, kw⟩ := tys2 k
  obtain ⟨a, xs, rfl, h1, h2⟩ := dp_lst kv
  obtain ⟨a', ys, rfl, h1', h2'⟩ := dp_lst kw
  refine ⟨a, a', xs, ys, rfl, SqL.of (g.sub _ _ h1), SqL.of (g.sub _ _ h1'), q _ H1 S1 g ⟨_, _, walk_zip (a := a) (b := a') (xs := xs) (ys := ys) (by rw [List.length_zip, dps_len h2, dps_len h2']), fun H2 S2 e1 e2 => ⟨SqL.of ((e1.trans e2) _ _ h1), SqL.of ((e1.trans e2) _ _ h1')⟩, fun i b x H2 S2 H3 hb e1 e2 y => ?_⟩⟩
  obtain ⟨p, x1, x2, rfl, hp, rfl, f1, f2⟩ := y
  obtain ⟨b1, b2⟩ := b
  have hz := List.getElem?_zip_eq_some.mp hb
  refine ⟨_, Gr.allocS e2 hp, dp_pair (H := H2) (dp_mono e1 _ _ (dps_at h2 hz.1 f1)) (dp_mono e1 _ _ (dps_at h2' hz.2 f2)) (same_none e2 hp)⟩
theorem w_enum {ta : TA} (h : SA true ta Γ C [tLs ds]) : SW (iEnum K ta) Γ C ds.zipIdx (fun p => tTp [.int (p.2 : Int), p.1]) := fun F σ H S s R q => h F σ H S s _ fun vs H1 S1 g k => by
  obtain ⟨v, rfl, kv⟩ := tys1 k
  obtain ⟨a, xs, rfl, h1, h2⟩ := dp_lst kv
  refine ⟨a, xs, rfl, SqL.of (g.sub _ _ h1), q _ H1 S1 g ⟨_, _, (by rw [List.length_zipIdx, ← dps_len h2]; exact walk_enum (a := a) (xs := xs)), fun H2 S2 e1 e2 => SqL.of ((e1.trans e2) _ _ h1), fun i b x H2 S2 H3 hb e1 e2 y => ?_⟩⟩
  obtain ⟨p, x1, x2, rfl, hp, rfl, f1, f2⟩ := y
  obtain ⟨b1, b2⟩ := b
  rw [List.getElem?_zipIdx] at hb
  cases e : ds[i]? with
  | none => rw [e] at hb; cases hb
  | some d =>
    rw [e] at hb
    cases hb
    cases f1
    refine ⟨_, Gr.allocS e2 hp, dp_pair (H := H2) ?_ (dp_mono e1 _ _ (dps_at h2 e f2)) (same_none e2 hp)⟩
    rw [show (0 + i : Nat) = i by omega]
    exact .int _
/-- a walk told otherwise -/
theorem w_map {β γ : Type} {wi : TI} {xs : List β} {ty : β → Ty} {ys : List γ} {f : γ → β} {ty' : γ → Ty} (h : SW wi Γ C xs ty) (e : xs = ys.map f) (ht : ∀ y, ty (f y) = ty' y) : SW wi Γ C ys ty' := fun F σ H S s R q => h F σ H S s R fun J H' S' g ⟨G, Y, w, hg, hy⟩ => q J H' S' g ⟨G, Y, by
    subst e
    rw [List.length_map] at w
    exact w, hg, fun i b x H2 S2 H3 hb e1 e2 y => by
    rw [← ht]
    exact hy i (f b) x H2 S2 H3 (by rw [e, List.getElem?_map, hb]; rfl) e1 e2 y⟩

/-! for -/
theorem ss_for {β γ : Type} {wi : TI} {g : TG} {tb : TS} {xs : List β} {ty : β → Ty} (hw : SW wi Γ C xs ty) (inv : Nat → γ → Prop) (Γi : Nat → γ → List Sl) (Ci : Nat → γ → List Cell) (g0 : γ) (hp : inv 0 g0) (h0 : leG Γ (Γi 0 g0)) (c0 : C = Ci 0 g0)
    (hb : ∀ i y b, xs[i]? = some b → inv i y → ∃ Γt vs, SG g (Γi i y) (ty b) Γt vs ∧ SS F tb Γt (Ci i y) { nx := fun σ H S => ∃ y', inv (i + 1) y' ∧ Stt F (Γi (i + 1) y') (Ci (i + 1) y') σ H S, ct := fun σ H S => ∃ y', inv (i + 1) y' ∧ Stt F (Γi (i + 1) y') (Ci (i + 1) y') σ H S, rt := O.rt, W := O.W, xc := O.xc })
    (hd : ∀ y, inv xs.length y → SS F u (Γi xs.length y) (Ci xs.length y) O) : SS F (tSeq (tFor wi g tb) u) Γ C O := fun σ H S s D o => hw F σ H S s _ fun J H1 S1 gr ⟨G, Y, wk, hG, hY⟩ => by
  refine for_it wk (fun i σ H2 => ∃ y S2, inv i y ∧ Same S1 S2 ∧ Stt F (Γi i y) (Ci i y) σ H2 S2) ⟨g0, S1, hp, Same.refl _, c0 ▸ (s.grow gr).weak h0⟩ (fun i σ H2 _ ⟨y, S2, _, e, s2⟩ => hG H2 S2 e s2.sub) ?_ ?_
  · rintro i x σ2 H2 H3 hi ⟨y, S2, hv, e, s2⟩ hy
    have hbi : xs[i]? = some xs[i] := List.getElem?_eq_getElem hi
    obtain ⟨Γt, vs, hg, hs⟩ := hb i y xs[i] hbi hv
    obtain ⟨S3, g3, k3⟩ := hY i xs[i] x H2 S2 H3 hbi e s2.sub hy
    have e3 : Same S1 S3 := e.trans g3.s
    refine hg F _ σ2 H3 S3 x (s2.grow g3) k3 _ fun σ' s' _ => ?_
    exact hs σ' H3 S3 s' _ ⟨fun σ4 H4 S4 e4 ⟨y', hv', s4⟩ => ⟨y', S4, hv', e3.trans e4, s4⟩, fun v H4 S4 e4 h => o.rt v H4 S4 (gr.s.trans (e3.trans e4)) h, fun _ _ _ _ z => z.elim, fun σ4 H4 S4 e4 ⟨y', hv', s4⟩ => ⟨y', S4, hv', e3.trans e4, s4⟩, fun c d σ4 H4 S4 e4 h => o.xc c d σ4 H4 S4 (gr.s.trans (e3.trans e4)) h⟩
  · rintro σ2 H2 ⟨y, S2, hv, e, s2⟩
    exact hd y hv σ2 H2 S2 s2 D (o.grow (gr.s.trans e))

/-! comprehensions -/
def wipeG (Γ : List Sl) : List Nat → List Sl
  | [] => Γ
  | v :: vs => (wipeG Γ vs).set v none
theorem wipeG_len : ∀ {vs : List Nat}, (wipeG Γ vs).length = Γ.length
  | [] => rfl
  | v :: vs => by unfold wipeG; rw [List.length_set, wipeG_len]
theorem wipeG_get : ∀ {vs : List Nat} {j : Nat} {T : Ty}, (wipeG Γ vs)[j]? = some (some T) → Γ[j]? = some (some T) ∧ j ∉ vs
  | [], _, _, h => ⟨h, by simp⟩
  | v :: vs, j, T, h => by
    unfold wipeG at h
    by_cases hi : v = j
    · subst hi
      by_cases hv : v < (wipeG Γ vs).length
      · rw [List.getElem?_set_self hv] at h; cases h
      · rw [List.getElem?_eq_none (by simpa using hv)] at h; cases h
    · rw [List.getElem?_set_ne hi] at h
      obtain ⟨h1, h2⟩ := wipeG_get h
      exact ⟨h1, by simp only [List.mem_cons, not_or]; exact ⟨fun e => hi e.symm, h2⟩⟩
theorem Stt.wipe {σ : L2.St} {H S : Hp} (s : Stt F Γ C σ H S) (vs : List Nat) : Stt F (wipeG Γ vs) C (wipe σ vs) H S :=
  ⟨s.g, by rw [wipeG_len, wipe_length]; exact s.len, fun i T h => by
    obtain ⟨h1, h2⟩ := wipeG_get h
    obtain ⟨v, e, k⟩ := s.sl i T h1
    exact ⟨v, by rw [wipe_out h2]; exact e, k⟩, s.cl, s.can⟩
theorem st_drop {c : Cell} (h : SE true te Γ C T) : SE true te Γ (c :: C) T := fun F σ H S s Q q => h F σ H S s.drop Q q
/-- [e for x in xs if t] -/
theorem o_lc {β : Type} {wi : TI} {g : TG} {tt : TT} {vs : List Nat} {xs : List β} {ty : β → Ty} (f : β → PyData) (keep : β → Bool) (hw : SW wi Γ C xs ty) (hl : xs.length ≤ 100000)
    (hb : ∀ (i : Nat) (b : β), xs[i]? = some b → ∃ Γt ws, SG g (wipeG Γ vs) (ty b) Γt ws ∧ (∀ j ∈ ws, j ∈ vs) ∧ ST tt Γt C (keep b) ∧ (keep b = true → SE true te Γt C (tD (f b)))) : SO (tLc wi g tt te vs) Γ C ((xs.filter keep).map f) := fun F σ H S s Q q =>
  hw F σ H S s _ fun J H1 S1 gr ⟨G, Y, wk, hG, hY⟩ D hD => by
  have s1 := s.grow gr
  refine lc_it wk (fun i H2 => ∃ S2 acc, Gr0 H1 S1 H2 S2 ∧ H2 D = some (.lst acc) ∧ S2 D = none ∧ DqAll S2 acc (((xs.take i).filter keep).map f)) ⟨S1, [], Gr.alloc gr.sub hD, upd_same, same_none gr.sub hD, .nil⟩ (fun i H2 _ ⟨S2, _, g2, _⟩ => hG H2 S2 g2.s g2.sub) ?_ ?_
  · rintro i x H2 H3 hi ⟨S2, acc, g2, hD2, nD2, hacc⟩ hy
    have hbi : xs[i]? = some xs[i] := List.getElem?_eq_getElem hi
    obtain ⟨Γt, ws, hg, hws, hk, he⟩ := hb i xs[i] hbi
    obtain ⟨S3, g3, k3⟩ := hY i xs[i] x H2 S2 H3 hbi g2.s g2.sub hy
    have g13 := g2.trans g3
    have hD3 : H3 D = some (.lst acc) := g3.same _ _ hD2
    have nD3 : S3 D = none := g3.un hD2 nD2
    refine hg F C (wipe σ vs) H3 S3 x ((s1.grow g13).wipe vs) k3 _ fun σ' s' w' => ⟨?_, ?_⟩
    · have e1 := w' vs hws
      rw [e1]
      have : ∀ {ws : List Nat} {τ : L2.St}, (∀ j ∈ ws, τ[j]? = none ∨ τ[j]? = some none) → wipe τ ws = τ := by
        intro ws
        induction ws with
        | nil => intro τ _; rfl
        | cons w ws ih =>
          intro τ h
          unfold wipe
          rw [ih fun j hj => h j (List.mem_cons_of_mem _ hj)]
          rcases h w List.mem_cons_self with e | e
          · have hl : τ.length ≤ w := List.getElem?_eq_none_iff.mp e
            exact List.set_eq_of_length_le hl
          · obtain ⟨hl, e⟩ := List.getElem?_eq_some_iff.mp e
            rw [← e, List.set_getElem_self]
      refine this fun j hj => ?_
      have key : ∀ {ws : List Nat} {τ : L2.St}, j ∈ ws → (wipe τ ws)[j]? = none ∨ (wipe τ ws)[j]? = some none := by
        intro ws
        induction ws with
        | nil => intro τ h; cases h
        | cons w ws ih =>
          intro τ h
          unfold wipe
          by_cases e : w = j
          · subst e
            by_cases hl : w < (wipe τ ws).length
            · exact .inr (List.getElem?_set_self hl)
            · exact .inl (List.getElem?_eq_none (by simpa using hl))
          · rw [List.getElem?_set_ne e]
            exact ih ((List.mem_cons.mp h).resolve_left fun z => e z.symm)
      exact key hj
    · refine hk F σ' H3 S3 s' _ fun H4 S4 g4 => ?_
      have tk : xs.take (i + 1) = xs.take i ++ [xs[i]] := by rw [List.take_add_one, hbi]; rfl
      cases hkb : keep xs[i] with
      | false =>
        refine iteF ⟨S4, acc, g13.trans g4, g4.same _ _ hD3, g4.un hD3 nD3, ?_⟩
        rw [tk, List.filter_append, List.filter_cons, hkb]
        simp only [Bool.false_eq_true, if_false, List.filter_nil, List.append_nil]
        exact dps_mono (g3.s.trans g4.s) _ _ hacc
      | true =>
        refine iteT (he hkb F σ' H4 S4 (s'.grow g4) _ fun y H5 S5 g5 k5 => ?_)
        have hD5 : H5 D = some (.lst acc) := g5.same _ _ (g4.same _ _ hD3)
        have nD5 : S5 D = none := g5.un (g4.same _ _ hD3) (g4.un hD3 nD3)
        have g15 := (g13.trans g4).trans g5
        have hacc5 := dps_mono ((g3.s.trans g4.s).trans g5.s) _ _ hacc
        have hlen : acc.length < sizeLine := by
          have h1 := dps_len hacc
          rw [List.length_map] at h1
          have h2 := List.length_filter_le keep (xs.take i)
          rw [List.length_take] at h2
          exact Nat.lt_of_lt_of_le (show acc.length < 100001 by omega) (by decide)
        refine ⟨acc, hD5, hlen, S5, acc ++ [y], ⟨fun q u hq _ => ?_, fun q hq => ?_, g15.s, fun q u hq => ?_, g15.new⟩, upd_same, nD5, ?_⟩
        · have nq : q ≠ D := ne_of_none hq hD
          rw [upd_ne nq]; exact g15.same q u hq
        · refine g15.there q ?_
          by_cases z : q = D
          · subst z; rw [upd_same] at hq; cases hq
          · rw [upd_ne z] at hq; exact hq
        · have nq : q ≠ D := fun z => by subst z; rw [nD5] at hq; cases hq
          rw [upd_ne nq]; exact g15.sub q u hq
        · rw [tk, List.filter_append, List.filter_cons, hkb, if_pos rfl, List.filter_nil, List.map_append]
          exact dps_app hacc5 (.cons k5 .nil)
  · rintro H2 ⟨S2, acc, g2, hD2, nD2, hacc⟩
    rw [List.take_length] at hacc
    exact q D acc H2 S2 (gr.trans g2) (gr.there _ hD) hD2 nD2 hacc
theorem t_yes : ST tYes Γ C true := fun F σ H S s Q q => q H S (Gr.refl s.sub)
/-- without a test -/
theorem o_lc0 {β : Type} {wi : TI} {g : TG} {vs : List Nat} {xs : List β} {ty : β → Ty} (f : β → PyData) (hw : SW wi Γ C xs ty) (hl : xs.length ≤ 100000)
    (hb : ∀ (i : Nat) (b : β), xs[i]? = some b → ∃ Γt ws, SG g (wipeG Γ vs) (ty b) Γt ws ∧ (∀ j ∈ ws, j ∈ vs) ∧ SE true te Γt C (tD (f b))) : SO (tLc wi g tYes te vs) Γ C (xs.map f) := by
  have h := o_lc (te := te) (tt := tYes) f (fun _ => true) hw hl fun i b e => by
    obtain ⟨Γt, ws, h1, h2, h3⟩ := hb i b e
    exact ⟨Γt, ws, h1, h2, t_yes, fun _ => h3⟩
  rwa [show xs.filter (fun _ => true) = xs by simp] at h
end
end Sw
/-! defs of the text, their promises, calls -/
namespace Sw
open PySem L2

/-- a def as the top has laid it -/
structure Def (K : PySem.W.Frag) (mg : Str → Option Value) (x : Str) (st : Stmt) (ps : List Str) : Prop where
  ex : ∃ (f : Addr) (fd : FuncData), Fun K x x st f fd ∧ mg x = some (.ref f) ∧ ∀ us : List Value, us.length = ps.length → bindArgs fd ⟨us, []⟩ = pure (ps.zip us)
theorem def_mk {K : PySem.W.Frag} {h : Heap} {mg : Str → Option Value} {x : Str} {st : Stmt} {f : Addr} {oc : Value} {od an : Option Addr} {sl : Array (Option Value)} {kV dc pm cd ct : Value} {ps : List Str} (X : K.In h) (G : h.Ns mainGlobals mg)
    (a : PySem.W.nsIn K mainGlobals x = some (some (.ref f))) (l : K.lookup f = some ⟨oc, od, .func (PySem.W.fnOf x x (defArgs st) (defBody st) (defScope st) .none kV dc pm an cd ct), sl⟩) (c : PySem.W.codeIn K cd x = true) (k : PySem.W.keepIn K (.ref f) = true)
    (b : ∀ (kV doc pm : Value) (an : Option Addr) (cdv ct : Value) (us : List Value), us.length = ps.length → bindArgs (PySem.W.fnOf x x (defArgs st) (defBody st) (defScope st) .none kV doc pm an cdv ct) ⟨us, []⟩ = pure (ps.zip us)) : Def K mg x st ps :=
  ⟨f, _, fun_mk l c k, PySem.W.mg_of X G a, fun us hl => b kV dc pm an cd ct us hl⟩
/-- a def that keeps its promise, by its name -/
structure Cal (P : Program) (w : World) (K : PySem.W.Frag) (mg : Str → Option Value) (base : Heap) (k : Nat) (x : Str) (ps : List Str) (sp : Sp) : Prop where
  ex : ∃ (f : Addr) (fd : FuncData), FnOk P w K mg base CX0 k f fd ps sp ∧ mg x = some (.ref f) ∧ PySem.W.keepIn K (.ref f) = true ∧ ∀ us : List Value, us.length = ps.length → bindArgs fd ⟨us, []⟩ = pure (ps.zip us)
/-- a call of it -/
theorem pc {X : Cx} {j k : Nat} {x : Str} {sp : Sp} {p pos : Pos} {e : Expr} {es : List Expr} {t : TA} {ps : List Str} (c : Cal X.prog X.w X.K X.mg X.base j x ps sp) (hr : Room k X.A) (ha : PA X (e :: es) t) (hj : j ≤ k := by decide) (hg : Gl X x := by rfl)
    (hdb : (x == ("__debug__" : Str)) = false := by decide) (he : starEach (e :: es) X.env = (false, eval e X.env) :: starEach es X.env := by rfl) (hpl : (backTo pos (starEach es X.env)).any (·.1) = false := by rfl) :
    PE X (.Call (.Name x p) (e :: es) [] pos) (tCall sp [] E0 t) := by
  obtain ⟨f, fd, F, hm, hk, hb⟩ := c.ex
  exact pe_call F (hr.mono hj) hg hm hk (Binds.all hb) .nil pass0 ha hdb he hpl
theorem pc0 {X : Cx} {j k : Nat} {x : Str} {sp : Sp} {p pos : Pos} {ps : List Str} (c : Cal X.prog X.w X.K X.mg X.base j x ps sp) (hr : Room k X.A) (hj : j ≤ k := by decide) (hg : Gl X x := by rfl)
    (hdb : (x == ("__debug__" : Str)) = false := by decide) : PE X (.Call (.Name x p) [] [] pos) (tCall sp [] E0 tNil) := by
  obtain ⟨f, fd, F, hm, hk, hb⟩ := c.ex
  exact pe_call0 F (hr.mono hj) hg hm hk (Binds.all hb) .nil pass0 hdb
def gam (Ts : List Ty) (n : Nat) : List Sl := Ts.map some ++ List.replicate (n - Ts.length) none
theorem gam_ok {F : Fr0} {Ts : List Ty} {N : List Str} {vs : List V} {H S : Hp} (h : Tys S Ts vs) (g : Gr F.M F.H F.S H S) (hn : Ts.length ≤ N.length) {C : List Cell} (cl : CellsOk C H S) (can : ∀ c ∈ C, c.w = true → F.M c.p ∨ F.H c.p = none) : Stt F (gam Ts N.length) C (L2.start N vs) H S := by
  have hl := Tys.len h
  refine ⟨g, by unfold gam L2.start; simp [hl], fun i T e => ?_, cl, can⟩
  unfold gam at e
  by_cases hi : i < Ts.length
  · rw [List.getElem?_append_left (by simpa using hi), List.getElem?_map] at e
    cases e1 : Ts[i]? with
    | none => rw [e1] at e; cases e
    | some T' =>
      rw [e1] at e
      cases e
      obtain ⟨v, e2, k⟩ := Tys.get h e1
      refine ⟨v, ?_, k⟩
      unfold L2.start
      rw [List.getElem?_append_left (by rw [List.length_map, hl]; exact hi), List.getElem?_map, e2]
      rfl
  · rw [List.getElem?_append_right (by simpa using Nat.le_of_not_lt hi)] at e
    rw [List.getElem?_replicate] at e
    split at e <;> cases e
/-- what is wanted of a def that hands back a settled T -/
def retP (F : Fr0) (T : Ty) : Out := { nx := fun _ H S => Gr F.M F.H F.S H S ∧ T.ok S .non, rt := fun v H S => Gr F.M F.H F.S H S ∧ T.ok S v }
def retO (F : Fr0) (ds : List PyData) : Out := { nx := fun _ _ _ => False, rt := fun v H S => Gr F.M F.H F.S H S ∧ ∃ p vs, v = .ref p ∧ F.H p = none ∧ H p = some (.lst vs) ∧ S p = none ∧ DqAll S vs ds }
section
variable {F : Fr0} {Γ : List Sl} {C : List Cell} {te : TE} {u : TS} {T : Ty} {K : PySem.W.Frag} {ds : List PyData} {i : Nat} {p : Addr}
theorem ss_retP (he : SE true te Γ C T) : SS F (tSeq (tRet te) u) Γ C (retP F T) := ss_ret he fun _ _ _ _ s k => ⟨s.g, k⟩
theorem ss_retIs {T' : Ty} (he : SE true te Γ C T) (e : T = T') : SS F (tSeq (tRet te) u) Γ C (retP F T') := e ▸ ss_retP he
theorem ss_endN : SS F tNext Γ C (retP F (tN)) := ss_nil fun _ _ _ s => ⟨s.g, .non⟩
theorem ss_retNew (he : SO te Γ C ds) : SS F (tSeq (tRet te) u) Γ C (retO F ds) := ss_retO he fun p vs _ _ _ s h0 h1 h2 k => ⟨s.g, p, vs, rfl, h0, h1, h2, k⟩
theorem ss_retNewIs {ds' : List PyData} (he : SO te Γ C ds) (e : ds = ds') : SS F (tSeq (tRet te) u) Γ C (retO F ds') := e ▸ ss_retNew he
/-- return of an own list -/
theorem ss_retOwn (hx : Γ[i]? = some (some (tV (.ref p)))) (hn : F.H p = none) : SS F (tSeq (tRet (tVar i)) u) Γ (cL p ds :: C) (retO F ds) := fun σ H S s D o => by
  obtain ⟨v, ev, kv⟩ := s.sl i _ hx
  have kv : v = .ref p := kv
  subst kv
  obtain ⟨ob, h1, h2, vs, rfl, h3⟩ := s.cl.head
  exact ⟨_, ev, o.rt _ H S (Same.refl S) ⟨s.g, p, vs, rfl, hn, h1, h2, h3⟩⟩
theorem ss_retOwnIs {ds' : List PyData} (hx : Γ[i]? = some (some (tV (.ref p)))) (hn : F.H p = none) (e : ds = ds') : SS F (tSeq (tRet (tVar i)) u) Γ (cL p ds :: C) (retO F ds') := e ▸ ss_retOwn hx hn
end
section
variable {P : Program} {w : World} {K : PySem.W.Frag} {mg : Str → Option Value} {base : Heap} {x : Str} {st : Stmt} {N ps : List Str} {k : Nat} {α : Type} {args : α → List Ty} {cond : α → Prop}
theorem fnk_P {res : α → Ty} {f : Addr} {fd : FuncData} (Fn : Fun K x x st f fd) (sc : FnScope N ps (defScope st)) (hlen : ∀ a, (args a).length = ps.length)
    (body : ∀ (cdv : Value) (A : Around) (outer : List Env) (s : Shared) (H : Hp) (E : XK), Room k (A.deeper (PyProof.Rows.envOfC x (defScope st) s.heap.objs.size f cdv)) →
      ∃ t, PSs (cxOf CX0 P w K mg base N x (defScope st) f cdv A outer s H E).nox (defBody st) t ∧ ∀ (a : α) (F : Fr0), F.M = M0 → cond a → SS F t (gam (args a) N.length) [] (retP F (res a))) : FnOk P w K mg base CX0 (k + 1) f fd ps (spP args cond res) := by
  have hpl : ps.length ≤ N.length := by have := congrArg List.length sc.pre; rw [List.length_take] at this; omega
  refine Fn.ok sc (fun vs H Q E h => ?_) (fun cdv A outer s H vs Q E hr h => ?_)
  · obtain ⟨a, S, _, h, _⟩ := h
    rw [Tys.len h, hlen]
  · obtain ⟨a, S, hS, ht, hc, q⟩ := h
    obtain ⟨t, h1, h2⟩ := body cdv A outer s H E hr
    refine ⟨t, h1, h2 a ⟨M0, H, S⟩ rfl hc _ H S (gam_ok ht (Gr.refl hS) (by rw [hlen]; exact hpl) .nil (fun _ z => (nomatch z))) _ ⟨fun σ H' S' _ h => q _ H' S' h.1 h.2, fun v H' S' _ h => q _ H' S' h.1 h.2, fun _ _ _ _ z => z.elim, fun _ _ _ _ z => z.elim, fun _ _ _ _ _ _ z => z.elim⟩⟩
theorem fn_P {res : α → Ty} (D : Def K mg x st ps) (sc : FnScope N ps (defScope st)) (hlen : ∀ a, (args a).length = ps.length)
    (body : ∀ (f : Addr) (cdv : Value) (A : Around) (outer : List Env) (s : Shared) (H : Hp) (E : XK), Room k (A.deeper (PyProof.Rows.envOfC x (defScope st) s.heap.objs.size f cdv)) →
      ∃ t, PSs (cxOf CX0 P w K mg base N x (defScope st) f cdv A outer s H E).nox (defBody st) t ∧ ∀ (a : α) (F : Fr0), F.M = M0 → cond a → SS F t (gam (args a) N.length) [] (retP F (res a))) : Cal P w K mg base (k + 1) x ps (spP args cond res) := by
  obtain ⟨f, fd, Fn, hm, hb⟩ := D.ex
  exact ⟨f, fd, fnk_P Fn sc hlen (body f), hm, Fn.kp, hb⟩
theorem fn_O {res : α → List PyData} (D : Def K mg x st ps) (sc : FnScope N ps (defScope st)) (hlen : ∀ a, (args a).length = ps.length)
    (body : ∀ (f : Addr) (cdv : Value) (A : Around) (outer : List Env) (s : Shared) (H : Hp) (E : XK), Room k (A.deeper (PyProof.Rows.envOfC x (defScope st) s.heap.objs.size f cdv)) →
      ∃ t, PSs (cxOf CX0 P w K mg base N x (defScope st) f cdv A outer s H E).nox (defBody st) t ∧ ∀ (a : α) (F : Fr0), F.M = M0 → cond a → SS F t (gam (args a) N.length) [] (retO F (res a))) : Cal P w K mg base (k + 1) x ps (spO args cond res) := by
  obtain ⟨f, fd, Fn, hm, hb⟩ := D.ex
  have hpl : ps.length ≤ N.length := by have := congrArg List.length sc.pre; rw [List.length_take] at this; omega
  refine ⟨f, fd, Fn.ok sc (fun vs H Q E h => ?_) (fun cdv A outer s H vs Q E hr h => ?_), hm, Fn.kp, hb⟩
  · obtain ⟨a, S, _, h, _⟩ := h
    rw [Tys.len h, hlen]
  · obtain ⟨a, S, hS, ht, hc, q⟩ := h
    obtain ⟨t, h1, h2⟩ := body f cdv A outer s H E hr
    refine ⟨t, h1, h2 a ⟨M0, H, S⟩ rfl hc _ H S (gam_ok ht (Gr.refl hS) (by rw [hlen]; exact hpl) .nil (fun _ z => (nomatch z))) _ ⟨fun σ H' S' _ h => h.elim, fun v H' S' _ h => ?_, fun _ _ _ _ z => z.elim, fun _ _ _ _ z => z.elim, fun _ _ _ _ _ _ z => z.elim⟩⟩
    obtain ⟨g, p, us, rfl, h0, h1, h2, h3⟩ := h
    exact q p us H' S' g h0 h1 h2 h3
end
/-- the script: a list of whole numbers that is only read -/
def tScr (K : PySem.W.Frag) (ns : List Int) : Ty := ⟨fun S v => ∃ a, v = .ref a ∧ SqL K S a (ns.map V.int), fun e ⟨a, h1, h2⟩ => ⟨a, h1, e.seq h2⟩⟩
theorem r_ixScr {K : PySem.W.Frag} {m : Bool} {ns : List Int} {i j : Int} (e : atI ns i = some j) : R2k m (rIxL K) (tScr K ns) (tI i) (tI j) := fun x y H S s hx hy Q q => by
  obtain ⟨a, rfl, h1⟩ := hx
  rw [dp_int hy]
  refine ⟨a, _, i, .int j, rfl, rfl, (vw_sub s).seq h1, ?_, q _ H S (Gr.refl s) (.int j)⟩
  unfold atI at e ⊢
  rw [List.length_map]
  cases hn : ixN ns.length i with
  | none => rw [hn] at e; cases e
  | some k =>
    rw [hn] at e
    have e : ns[k]? = some j := e
    show (ns.map V.int)[k]? = some (.int j)
    rw [List.getElem?_map, e]
    rfl
theorem c_lenScr {K : PySem.W.Frag} {m : Bool} {ns : List Int} : RCk m (rLenS K) [tScr K ns] (tI (ns.length : Int)) := fun vs H S s h Q q => by
  obtain ⟨v, rfl, a, rfl, h1⟩ := tys1 h
  exact ⟨a, _, rfl, .inl ((vw_sub s).seq h1), by rw [List.length_map]; exact q _ H S (Gr.refl s) (.int _)⟩
/-- the law's own promise -/
abbrev spLaw (K : PySem.W.Frag) : Sp := spP (fun ns : List Int => [tScr K ns]) (fun ns => ns.length ≤ 63) (fun _ => tBo true)
theorem law_F {l : PySem.W.OpenLaw} {w : World} {K : PySem.W.Frag} {mg : Str → Option Value} {fa : Addr} {k : Nat} {st : Stmt} {N : List Str} (hfa : mg "law" = some (.ref fa)) (D : Def K mg "law" st ["script"]) (sc : FnScope N ["script"] (defScope st))
    (body : ∀ (base : Heap) (f : Addr) (cdv : Value) (A : Around) (outer : List Env) (s : Shared) (H : Hp) (E : XK), Room k (A.deeper (PyProof.Rows.envOfC "law" (defScope st) s.heap.objs.size f cdv)) →
      ∃ t, PSs (cxOf CX0 l.prog w K mg base N "law" (defScope st) f cdv A outer s H E).nox (defBody st) t ∧ ∀ (ns : List Int) (F : Fr0), F.M = M0 → ns.length ≤ 63 → SS F t (gam [tScr K ns] N.length) [] (retP F (tBo true))) :
    ∃ fd : FuncData, (∀ (s : Shared) (v : Value), BindsTo s fd ⟨[v], []⟩ [("script", v)]) ∧ ∀ base : Heap, K.In base → base.Ns mainGlobals mg → FnOk l.prog w K mg base CX0 (k + 1) fa fd ["script"] (spLaw K) := by
  obtain ⟨f, fd, Fn, hm, hb⟩ := D.ex
  have e := hfa.symm.trans hm
  cases e
  exact ⟨fd, fun s v => .of_eq (hb [v] rfl), fun base _ _ => fnk_P Fn sc (fun _ => rfl) (body base fa)⟩
theorem law_walk {l : PySem.W.OpenLaw} {q : Program} {loose : List Str} {XP : (Str → Option Value) → Heap → Prop} {YP : World → Heap → Prop} {d : DefRec} {K : Params → PySem.W.Frag} {k : Nat} (hn : l.most = some 63) (hdf : d.params.defaults = []) (hr : Room k PySem.callerA)
    (hY : ∀ (w : World) (h : Heap), YP w h → (K w.params).In h)
    (F : ∀ (w : World) (mg : Str → Option Value) (fa : Addr) (h : Heap), (K w.params).In h → h.Ns mainGlobals mg → mg d.name = some (.ref fa) →
      ∃ fd : FuncData, (∀ (s : Shared) (u : Value), BindsTo s fd ⟨[u], []⟩ [("script", u)]) ∧ ∀ base : Heap, (K w.params).In base → base.Ns mainGlobals mg → FnOk l.prog w (K w.params) mg base CX0 k fa fd ["script"] (spLaw (K w.params))) :
    PySem.W.WalkO q loose XP YP l.row.toRowW d [] (fun f vs => PySem.call f vs) :=
  L2.walk_of (n := 63) (k := k) (x := "script") (CX := fun _ => CX0) (sp := fun w => spLaw (K w.params)) hn (by decide) hdf hr hY F
    (fun w H a ns hl _ hS => ⟨ns, H, Same.refl H, ⟨⟨a, rfl, hS⟩, trivial⟩, hl, fun v H' S' _ h => dp_bl h⟩) fun _ _ _ _ _ z => z
end Sw
/-! further rules -/
namespace Sw
open PySem L2
/-! the layer's rules, their K named -/
section
variable (K : PySem.W.Frag) {X : Cx} {e o a b : Expr} {es : List Expr} {te to ta tb : TE} {t : TA} {pos p : Pos} {tg : Expr}
theorem kIxL (hK : X.K = K := by rfl) : IxR X (rIxL K) := hK ▸ ix_list
theorem kIxT (hK : X.K = K := by rfl) : IxR X (rIxT K) := hK ▸ ix_tup
theorem kSlL (hK : X.K = K := by rfl) : SlR X (rSlL K) := hK ▸ sl_list
theorem kSlT (hK : X.K = K := by rfl) : SlR X (rSlT K) := hK ▸ sl_tup
theorem kList (hK : X.K = K := by rfl) : CallR X (.type "list") (rListS K) := hK ▸ call_list_of
theorem kLen (hK : X.K = K := by rfl) : CallR X (.builtin "len") (rLenS K) := hK ▸ call_len_seq
theorem kEq (hu : X.A.units + 64 < cLine) (hK : X.K = K := by rfl) : OpR X (compareOp .Eq) (rEqD K) := hK ▸ op_eqD hu
theorem kNe (hu : X.A.units + 64 < cLine) (hK : X.K = K := by rfl) : OpR X (compareOp .NotEq) (rNeD K) := hK ▸ op_neD hu
theorem kIn (hK : X.K = K := by rfl) : OpR X (compareOp .In) (rIn K false) := hK ▸ op_in_seq
theorem kNi (hK : X.K = K := by rfl) : OpR X (compareOp .NotIn) (rIn K true) := hK ▸ op_notIn_seq
theorem kAll (hc : X.calm = true) (hK : X.K = K := by rfl) : CallR X (.builtin "all") (rAll K) := hK ▸ cr_all hc
theorem kAny (hc : X.calm = true) (hK : X.K = K := by rfl) : CallR X (.builtin "any") (rAny K) := hK ▸ cr_any hc
theorem kIsi (hK : X.K = K := by rfl) : CallR X (.builtin "isinstance") (rIsi K) := hK ▸ call_isi
theorem kSorted (hK : X.K = K := by rfl) : CallR X (.builtin "sorted") (rSorted K) := hK ▸ cr_sorted
theorem kpList (h : PE X e te) (hK : X.K = K := by rfl) : PI X tg e (iList K te) := hK ▸ pi_list h
theorem kpTup (h : PE X e te) (hK : X.K = K := by rfl) : PI X tg e (iTup K te) := hK ▸ pi_tup h
theorem kpZip {e2 : Expr} {elts : List Expr} {kk : Nat} {tpos : Pos} (hm : X.mg "zip" = none) (ha : PA X [e, e2] t) (hg : Gl X "zip" := by rfl) (hK : X.K = K := by rfl) (hs : starEach [e, e2] X.env = (false, eval e X.env) :: starEach [e2] X.env := by rfl) (hpl : (backTo pos (starEach [e2] X.env)).any (·.1) = false := by rfl) : PI X (.Tuple elts kk tpos) (.Call (.Name "zip" p) [e, e2] [] pos) (iZip K t) := hK ▸ pi_zip hg hm ha hs hpl
theorem kpEnum {elts : List Expr} {kk : Nat} {tpos : Pos} (hm : X.mg "enumerate" = none) (ha : PA X [e] t) (hg : Gl X "enumerate" := by rfl) (hK : X.K = K := by rfl) (hs : starEach [e] X.env = [(false, eval e X.env)] := by rfl) : PI X (.Tuple elts kk tpos) (.Call (.Name "enumerate" p) [e] [] pos) (iEnum K t) := hK ▸ pi_enum hg hm ha hs
theorem kpRev (hm : X.mg "reversed" = none) (ha : PA X [e] t) (hg : Gl X "reversed" := by rfl) (hK : X.K = K := by rfl) (hs : starEach [e] X.env = [(false, eval e X.env)] := by rfl) : PI X tg (.Call (.Name "reversed" p) [e] [] pos) (iRev K t) := hK ▸ pi_reversed hg hm ha hs
theorem kBM {T : String} {r : V → List V → Hp → VK → Prop} (h : PE X e (tBM X.K T r to t)) (hK : X.K = K := by rfl) : PE X e (tBM K T r to t) := hK ▸ h
theorem kBM0 {T : String} {r : V → List V → Hp → VK → Prop} (h : PE X e (tBM0 X.K T r to)) (hK : X.K = K := by rfl) : PE X e (tBM0 K T r to) := hK ▸ h
theorem kgTup (n : Nat) {k : Nat} {gs : TGs} (hc : X.calm = true) (h : PGs X es gs) (hn : (assignEach es X.env).length = n := by rfl) (hst : (assignEach es X.env).findIdx? (·.1) = none := by rfl) (hK : X.K = K := by rfl) : PG X (.Tuple es k pos) (gTup K n gs) := hK ▸ pg_tup hc h hn hst
theorem kgUnl (n : Nat) {k : Nat} {gs : TGs} (hc : X.calm = true) (h : PGs X es gs) (hn : (assignEach es X.env).length = n := by rfl) (hst : (assignEach es X.env).findIdx? (·.1) = none := by rfl) (hK : X.K = K := by rfl) : PG X (.Tuple es k pos) (gUnl K n gs) := hK ▸ pg_unl hc h hn hst
theorem kFld {f : Str} (he : PE X e te) (hb : attributeBase e f X.env (eval e X.env) = eval e X.env := by rfl) (hK : X.K = K := by rfl) : PE X (.Attribute e f pos) (tFld K te f) := hK ▸ pe_fld he hb
theorem kSetF {f : Str} {value : Expr} {tv : TE} {pos' : Pos} (ha : PE X o ta) (hv : PE X value tv) (hs : swapsWith value (some (.Attribute o f pos')) pos.line X.env = pure false := by rfl) (hK : X.K = K := by rfl) : PS X (.Assign [.Attribute o f pos'] value pos) (sFld K ta tv f) := hK ▸ ps_fld ha hv hs
end
section
variable {K : PySem.W.Frag} {m : Bool} {Γ Γ' : List Sl} {C : List Cell} {ta tb te tx : TE} {T : Ty} {F : Fr0} {b : Bool}
/-- the type's name of a datum -/
def tyN : PyData → String
  | .none => "NoneType"
  | .bool _ => "bool"
  | .int _ => "int"
  | .str _ => "str"
  | .list _ => "list"
  | .tuple _ => "tuple"
  | .dict _ => "dict"
theorem tyX_l {H : Hp} {a : Addr} {xs : List V} (h : SqL K H a xs) : TyX K H (.ref a) (.type "list") := by
  rcases h with (h | ⟨o, h⟩) | ⟨o, its, n, h, c, _⟩
  · exact .base (.lst h)
  · exact .base (.frz h)
  · exact .kList h c
theorem tyX_t {H : Hp} {a : Addr} {xs : List V} (h : SqT K H a xs) : TyX K H (.ref a) (.type "tuple") := by
  rcases h with (h | ⟨o, h⟩) | ⟨o, its, n, h, c, _⟩
  · exact .base (.tup h)
  · exact .fTuple h
  · exact .kTuple h c
theorem tyX_d {H : Hp} {v : V} {d : PyData} (h : Dp K H v d) : TyX K H v (.type (tyN d)) := by
  cases h with
  | non => exact .base .non
  | bl b => exact .base (.bl b)
  | int i => exact .base (.int i)
  | str x => exact .base (.str x)
  | lst h _ => exact tyX_l h
  | tup h _ => exact tyX_t h
/-- isinstance(x, T), T built in -/
theorem e_isi {d : PyData} {n : String} (h : SE true tx Γ C (tD d)) (hk : kitB (tyN d) n = some b) : SE true (tCB (rIsi K) (tCons tx (tCons (tC (.ty n)) tNil))) Γ C (tBo b) := fun F σ H S s Q q =>
  h F σ H S s _ fun v H1 S1 g k => ⟨v, .ty n, _, _, b, rfl, .ty n, tyX_d (dq_dp _ _ (dp_mono g.sub _ _ k)), kit_ty hk, q _ H1 S1 g (.bl b)⟩
def isInt : PyData → Bool
  | .int _ | .bool _ => true
  | _ => false
def isBool : PyData → Bool
  | .bool _ => true
  | _ => false
def isList : PyData → Bool
  | .list _ => true
  | _ => false
def isTuple : PyData → Bool
  | .tuple _ => true
  | _ => false
theorem kit_int : ∀ {d : PyData}, kitB (tyN d) "int" = some (isInt d)
  | .none => (by decide +kernel : kitB "NoneType" "int" = some false)
  | .bool _ => (by decide +kernel : kitB "bool" "int" = some true)
  | .int _ => (by decide +kernel : kitB "int" "int" = some true)
  | .str _ => (by decide +kernel : kitB "str" "int" = some false)
  | .list _ => (by decide +kernel : kitB "list" "int" = some false)
  | .tuple _ => (by decide +kernel : kitB "tuple" "int" = some false)
  | .dict _ => (by decide +kernel : kitB "dict" "int" = some false)
theorem kit_bool : ∀ {d : PyData}, kitB (tyN d) "bool" = some (isBool d)
  | .none => (by decide +kernel : kitB "NoneType" "bool" = some false)
  | .bool _ => (by decide +kernel : kitB "bool" "bool" = some true)
  | .int _ => (by decide +kernel : kitB "int" "bool" = some false)
  | .str _ => (by decide +kernel : kitB "str" "bool" = some false)
  | .list _ => (by decide +kernel : kitB "list" "bool" = some false)
  | .tuple _ => (by decide +kernel : kitB "tuple" "bool" = some false)
  | .dict _ => (by decide +kernel : kitB "dict" "bool" = some false)
theorem kit_list : ∀ {d : PyData}, kitB (tyN d) "list" = some (isList d)
  | .none => (by decide +kernel : kitB "NoneType" "list" = some false)
  | .bool _ => (by decide +kernel : kitB "bool" "list" = some false)
  | .int _ => (by decide +kernel : kitB "int" "list" = some false)
  | .str _ => (by decide +kernel : kitB "str" "list" = some false)
  | .list _ => (by decide +kernel : kitB "list" "list" = some true)
  | .tuple _ => (by decide +kernel : kitB "tuple" "list" = some false)
  | .dict _ => (by decide +kernel : kitB "dict" "list" = some false)
theorem kit_tuple : ∀ {d : PyData}, kitB (tyN d) "tuple" = some (isTuple d)
  | .none => (by decide +kernel : kitB "NoneType" "tuple" = some false)
  | .bool _ => (by decide +kernel : kitB "bool" "tuple" = some false)
  | .int _ => (by decide +kernel : kitB "int" "tuple" = some false)
  | .str _ => (by decide +kernel : kitB "str" "tuple" = some false)
  | .list _ => (by decide +kernel : kitB "list" "tuple" = some false)
  | .tuple _ => (by decide +kernel : kitB "tuple" "tuple" = some true)
  | .dict _ => (by decide +kernel : kitB "dict" "tuple" = some false)
theorem r_isB {i j : Bool} : R2k m rIsB (tBo i) (tBo j) (tBo (decide (i = j))) := fun x y H S s hx hy Q q => by
  rw [dp_bl hx, dp_bl hy]; exact ⟨i, j, rfl, rfl, q _ H S (Gr.refl s) (.bl _)⟩
theorem r_notB {i j : Bool} : R2k m rNotB (tBo i) (tBo j) (tBo (!decide (i = j))) := fun x y H S s hx hy Q q => by
  rw [dp_bl hx, dp_bl hy]; exact ⟨i, j, rfl, rfl, q _ H S (Gr.refl s) (.bl _)⟩
/-- comprehensions of whole numbers, of truth values -/
theorem o_lcI {β : Type} {wi : TI} {g : TG} {vs : List Nat} {xs : List β} {ty : β → Ty} (f : β → Int) (hw : SW wi Γ C xs ty) (hl : xs.length ≤ 100000)
    (hb : ∀ (i : Nat) (b : β), xs[i]? = some b → ∃ Γt ws, SG g (wipeG Γ vs) (ty b) Γt ws ∧ (∀ j ∈ ws, j ∈ vs) ∧ SE true te Γt C (tI (f b))) : SO (tLc wi g tYes te vs) Γ C ((xs.map f).map .int) := by
  rw [List.map_map]
  exact o_lc0 (fun b => .int (f b)) hw hl hb
theorem o_lcB {β : Type} {wi : TI} {g : TG} {vs : List Nat} {xs : List β} {ty : β → Ty} (f : β → Bool) (hw : SW wi Γ C xs ty) (hl : xs.length ≤ 100000)
    (hb : ∀ (i : Nat) (b : β), xs[i]? = some b → ∃ Γt ws, SG g (wipeG Γ vs) (ty b) Γt ws ∧ (∀ j ∈ ws, j ∈ vs) ∧ SE true te Γt C (tBo (f b))) : SO (tLc wi g tYes te vs) Γ C ((xs.map f).map .bool) := by
  rw [List.map_map]
  exact o_lc0 (fun b => .bool (f b)) hw hl hb
/-! lists: + and * -/
theorem o_cat {ds es : List PyData} (ha : SE true ta Γ C (tLs ds)) (hb : SE true tb Γ C (tLs es)) (hl : ds.length + es.length ≤ 100000) : SO (tOp rCat ta tb) Γ C (ds ++ es) := fun F σ H S s Q q =>
  ha F σ H S s _ fun x H1 S1 g1 k1 => hb F σ H1 S1 (s.grow g1) _ fun y H2 S2 g2 k2 => by
    obtain ⟨a, xs, rfl, h1, h2⟩ := dp_lst (dp_mono g2.s _ _ k1)
    obtain ⟨b, ys, rfl, h1', h2'⟩ := dp_lst k2
    refine ⟨a, b, xs, ys, rfl, rfl, g2.sub _ _ h1, g2.sub _ _ h1', by rw [dps_len h2, dps_len h2']; exact Nat.le_trans hl (by decide), fun p hp => ?_⟩
    have g := g1.trans g2
    have g3 := Gr.alloc (M := M0) g.sub (o := .lst (xs ++ ys)) hp
    exact q p _ _ _ (g.trans g3) (g.there _ hp) upd_same (same_none g.sub hp) (dps_app h2 h2')
theorem dps_rep {H : Hp} {ds : List PyData} {vs : List V} (h : DqAll H vs ds) : ∀ k : Nat, DqAll H (List.replicate k vs).flatten (List.replicate k ds).flatten
  | 0 => .nil
  | k + 1 => by
    rw [List.replicate_succ, List.replicate_succ, List.flatten_cons, List.flatten_cons]
    exact dps_app h (dps_rep h k)
theorem o_rep {ds : List PyData} {k : Int} (ha : SE true ta Γ C (tLs ds)) (hb : SE true tb Γ C (tI k)) (hk : -(2 ^ 63) ≤ k ∧ k < 2 ^ 63) (hl : ds.length * k.toNat ≤ 100000) : SO (tOp rRep ta tb) Γ C (List.replicate k.toNat ds).flatten := fun F σ H S s Q q =>
  ha F σ H S s _ fun x H1 S1 g1 k1 => hb F σ H1 S1 (s.grow g1) _ fun y H2 S2 g2 k2 => by
    obtain ⟨a, xs, rfl, h1, h2⟩ := dp_lst (dp_mono g2.s _ _ k1)
    refine ⟨a, k, xs, rfl, dp_int k2, g2.sub _ _ h1, hk.1, hk.2, by rw [dps_len h2]; exact Nat.le_trans hl (by decide), fun p hp => ?_⟩
    have g := g1.trans g2
    have g3 := Gr.alloc (M := M0) g.sub (o := .lst (List.replicate k.toNat xs).flatten) hp
    exact q p _ _ _ (g.trans g3) (g.there _ hp) upd_same (same_none g.sub hp) (dps_rep h2 _)
theorem flat_one {α : Type} (x : α) : ∀ k : Nat, (List.replicate k [x]).flatten = List.replicate k x
  | 0 => rfl
  | k + 1 => by rw [List.replicate_succ, List.flatten_cons, flat_one x k]; rfl
/-- [x] * k -/
theorem o_rep1 {d : PyData} {k : Int} (ha : SE true ta Γ C (tD d)) (hb : SE true tb Γ C (tI k)) (hk : k ≤ 100000) (hk0 : -100000 ≤ k) : SO (tOp rRep (tLst (tCons ta tNil)) tb) Γ C (List.replicate k.toNat d) := by
  have h := o_rep (ds := [d]) (e_lst (ad_cons ha ad_nil) (by simp)) hb (by omega) (by simp; omega)
  rwa [flat_one] at h
/-- the branches join, what they make left open -/
theorem ss_ifE {γ : Type} {c : TT} {t1 t2 u : TS} {O : Out} (inv : γ → Prop) (Γ' : γ → List Sl) (C' : γ → List Cell) (hc : ST c Γ C b) (h1 : b = true → SS F t1 Γ C { O with nx := fun σ H S => ∃ y, inv y ∧ Stt F (Γ' y) (C' y) σ H S })
    (h2 : b = false → SS F t2 Γ C { O with nx := fun σ H S => ∃ y, inv y ∧ Stt F (Γ' y) (C' y) σ H S }) (h : ∀ y, inv y → SS F u (Γ' y) (C' y) O) :
    SS F (tSeq (tIfS c t1 t2) u) Γ C O := fun σ H S s D o => hc F σ H S s _ fun H1 S1 g => by
  have o' : OutOk S1 { O with nx := fun σ H S => ∃ y, inv y ∧ Stt F (Γ' y) (C' y) σ H S } { D with nx := u D } :=
    ⟨fun σ H2 S2 e ⟨y, hy, s⟩ => h y hy σ H2 S2 s D ((o.grow g.s).grow e), (o.grow g.s).rt, (o.grow g.s).bk, (o.grow g.s).ct, (o.grow g.s).xc⟩
  cases b with
  | true => exact iteT (h1 rfl σ H1 S1 (s.grow g) _ o')
  | false => exact iteF (h2 rfl σ H1 S1 (s.grow g) _ o')
theorem ss_forget {t : TS} {c : Cell} {O : Out} (h : SS F t Γ C O) : SS F t Γ (c :: C) O := fun σ H S s D o => h σ H S s.drop D o
theorem ss_swap {t : TS} {a b : Cell} {O : Out} (h : SS F t Γ (b :: a :: C) O) : SS F t Γ (a :: b :: C) O := ss_perm (List.Perm.swap b a C) h
end
theorem leG_un {Γ : List Sl} : leG Γ (Γ.map fun _ => none) := by
  induction Γ with
  | nil => trivial
  | cons a r ih => exact ⟨.inl rfl, ih⟩
end Sw
/-! promises with cells: what a def reads, writes, hands back -/
namespace Sw
open PySem L2

/-- a tuple, a list of such values -/
def tTV (Ts : List Ty) : Ty := ⟨fun S v => ∃ a vs, v = .ref a ∧ S a = some (.tup vs) ∧ Tys S Ts vs, fun e ⟨a, vs, h1, h2, h3⟩ => ⟨a, vs, h1, e _ _ h2, Tys.mono e h3⟩⟩
def tLV (Ts : List Ty) : Ty := ⟨fun S v => ∃ a vs, v = .ref a ∧ S a = some (.lst vs) ∧ Tys S Ts vs, fun e ⟨a, vs, h1, h2, h3⟩ => ⟨a, vs, h1, e _ _ h2, Tys.mono e h3⟩⟩

inductive Pk : List Cell → Cell → List Cell → Prop
  | here {c : Cell} {C : List Cell} : Pk (c :: C) c C
  | there {c x : Cell} {C C' : List Cell} : Pk C c C' → Pk (x :: C) c (x :: C')
inductive Pks : List Cell → List Cell → List Cell → Prop
  | nil {C : List Cell} : Pks C [] C
  | cons {c : Cell} {cs C C1 C2 : List Cell} : Pk C c C1 → Pks C1 cs C2 → Pks C (c :: cs) C2
theorem Pk.perm {c : Cell} {C C' : List Cell} (h : Pk C c C') : C.Perm (c :: C') := by
  induction h with
  | here => exact .refl _
  | there _ ih => exact (ih.cons _).trans (.swap _ _ _)
theorem Pks.perm {cs C C' : List Cell} (h : Pks C cs C') : C.Perm (cs ++ C') := by
  induction h with
  | nil => exact .refl _
  | cons h _ ih => exact h.perm.trans (ih.cons _)
theorem CellsOk.left {A B : List Cell} {H S : Hp} (k : CellsOk (A ++ B) H S) : CellsOk A H S := ⟨fun c h => k.at_ c (List.mem_append_left _ h), by
  have := k.nd
  rw [List.map_append] at this
  exact (List.nodup_append.mp this).1⟩
theorem CellsOk.right {A B : List Cell} {H S : Hp} (k : CellsOk (A ++ B) H S) : CellsOk B H S := (k.perm List.perm_append_comm).left
theorem ro_map {C : List Cell} : (C.map Cell.ro).map (·.p) = C.map (·.p) := by rw [List.map_map]; rfl
theorem CellsOk.ro {C : List Cell} {H S : Hp} : CellsOk (C.map Cell.ro) H S ↔ CellsOk C H S :=
  ⟨fun k => ⟨fun c h => k.at_ c.ro (List.mem_map.mpr ⟨c, h, rfl⟩), by have := k.nd; rwa [ro_map] at this⟩, fun k => ⟨fun c h => by
    obtain ⟨c0, h0, rfl⟩ := List.mem_map.mp h
    exact k.at_ c0 h0, by rw [ro_map]; exact k.nd⟩⟩
def wrs (cs : List Cell) : Addr → Prop := fun q => ∃ c ∈ cs, c.p = q
theorem wrs_nil {q : Addr} : ¬ wrs [] q := fun ⟨_, h, _⟩ => (nomatch h)
/-- a promise -/
structure Pr (α ρ : Type) where
  args : α → List Ty
  cond : α → Prop := fun _ => True
  rd : α → List Cell := fun _ => []
  cin : α → List Cell := fun _ => []
  post : α → ρ → Prop := fun _ _ => True
  res : α → ρ → Ty
  cout : α → ρ → List Cell := fun _ _ => []
  /-- the new ones -/
  nw : α → ρ → List Addr := fun _ _ => []
  /-- the class that is raised -/
  exc : α → Option Value := fun _ => none
section
variable {α ρ : Type}
structure Res (p : Pr α ρ) (a : α) (H S : Hp) (y : ρ) (v : V) (H' S' : Hp) : Prop where
  post : p.post a y
  g : Gr (wrs (p.cin a)) H S H' S'
  res : (p.res a y).ok S' v
  cl : CellsOk (p.cout a y) H' S'
  nw : ∀ q ∈ p.nw a y, H q = none
  fr : ∀ c ∈ p.cout a y, wrs (p.cin a) c.p ∨ c.p ∈ p.nw a y
def spG (p : Pr α ρ) : Sp := fun vs H Q E => ∃ (a : α) (S : Hp), Same S H ∧ Tys S (p.args a) vs ∧ p.cond a ∧ CellsOk (p.rd a ++ p.cin a) H S ∧
  (p.exc a = none → ∀ y v H' S', Res p a H S y v H' S' → Q v H') ∧ (∀ c, p.exc a = some c → ∀ d H' S', Gr (wrs (p.cin a)) H S H' S' → E c d H')
end
/-- an expression that may change cells -/
def SM {ρ : Type} (te : TE) (Γ : List Sl) (C : List Cell) (post : ρ → Prop) (T : ρ → Ty) (C' : ρ → List Cell) (N : ρ → List Addr) : Prop := ∀ (F : Fr0) (σ : L2.St) (H S : Hp), Stt F Γ C σ H S → ∀ Q : VK,
  (∀ y v H' S', post y → Same S S' → (T y).ok S' v → (∀ q ∈ N y, F.H q = none) → Stt F Γ (C' y) σ H' S' → Q v H') → te σ H Q
section
variable {F : Fr0} {Γ Γ' : List Sl} {C C' Cr Cq cs : List Cell} {σ : L2.St} {H S H1 S1 : Hp} {te : TE} {T T' : Ty} {O : Out} {u : TS} {i : Nat} {K : PySem.W.Frag} {m : Bool}
theorem CellsOk.pick (k : CellsOk C H S) {cin rd : List Cell} (hw : Pks C cin Cr) (hr : Pks (Cr.map Cell.ro) (rd.map Cell.ro) Cq) : CellsOk (rd ++ cin) H S := by
  have k1 := CellsOk.ro.mpr (k.perm hw.perm)
  rw [List.map_append] at k1
  have k2 := k1.perm (List.Perm.append_left _ hr.perm)
  rw [← List.append_assoc] at k2
  have k3 := k2.left.perm List.perm_append_comm
  rw [← List.map_append] at k3
  exact CellsOk.ro.mp k3
/-- behind a call -/
theorem Stt.call (s : Stt F Γ C σ H S) {cin cout : List Cell} (hw : Pks C cin Cr) (hwt : ∀ c ∈ cin, c.w = true) {nw : List Addr} (g : Gr (wrs cin) H S H1 S1) (cl : CellsOk cout H1 S1) (hn : ∀ q ∈ nw, H q = none) (fr : ∀ c ∈ cout, wrs cin c.p ∨ c.p ∈ nw) : Stt F Γ (cout ++ Cr) σ H1 S1 := by
  have s0 := s.perm hw.perm
  have nd := s0.cl.nd
  rw [List.map_append] at nd
  have dis := (List.nodup_append.mp nd).2.2
  have cin_can : ∀ q, wrs cin q → F.M q ∨ F.H q = none := fun q ⟨c, hc, e⟩ => e ▸ s0.can c (List.mem_append_left _ hc) (hwt c hc)
  have kr : CellsOk Cr H1 S1 := ⟨fun c hc => by
    obtain ⟨o, h1, h2, h3⟩ := s0.cl.at_ c (List.mem_append_right _ hc)
    refine ⟨o, g.keep _ _ h1 fun ⟨c0, hc0, e⟩ => ?_, g.un h1 h2, c.mono g.s h3⟩
    exact dis c0.p (List.mem_map.mpr ⟨c0, hc0, rfl⟩) c.p (List.mem_map.mpr ⟨c, hc, rfl⟩) e, (List.nodup_append.mp nd).2.1⟩
  refine ⟨⟨fun q o h n => ?_, fun q h => s.g.there q (g.there q h), s.g.s.trans g.s, g.sub, fun q o h => ?_⟩, s.len, fun j U e => ?_, ⟨fun c hc => ?_, ?_⟩, fun c hc hcw => ?_⟩
  · refine g.keep q o (s.g.keep q o h n) fun w => ?_
    rcases cin_can q w with z | z
    · exact n z
    · rw [h] at z; cases z
  · rcases g.new q o h with z | z
    · exact s.g.new q o z
    · exact .inr (s.g.there q z)
  · obtain ⟨v, e1, e2⟩ := s.sl j U e
    exact ⟨v, e1, U.mono g.s e2⟩
  · rcases List.mem_append.mp hc with hc | hc
    · exact cl.at_ c hc
    · exact kr.at_ c hc
  · rw [List.map_append]
    refine List.nodup_append.mpr ⟨cl.nd, kr.nd, fun a ha b hb e => ?_⟩
    obtain ⟨c, hc, rfl⟩ := List.mem_map.mp ha
    obtain ⟨c2, hc2, rfl⟩ := List.mem_map.mp hb
    rcases fr c hc with ⟨c0, hc0, e0⟩ | z
    · exact dis c0.p (List.mem_map.mpr ⟨c0, hc0, rfl⟩) c2.p (List.mem_map.mpr ⟨c2, hc2, rfl⟩) (e0.trans e)
    · obtain ⟨o, h1, _⟩ := s0.cl.at_ c2 (List.mem_append_right _ hc2)
      rw [← e, hn _ z] at h1; cases h1
  · rcases List.mem_append.mp hc with hc | hc
    · rcases fr c hc with z | z
      · exact cin_can _ z
      · exact .inr (s.g.there _ (hn _ z))
    · exact s0.can c (List.mem_append_right _ hc) hcw
/-! settling -/
def setl (S H : Hp) (ps : List Addr) : Hp := fun q => if q ∈ ps then H q else S q
theorem setl_same (k : CellsOk cs H S) : Same S (setl S H (cs.map (·.p))) := fun q o h => by
  unfold setl
  split
  · rename_i hm
    obtain ⟨c, hc, rfl⟩ := List.mem_map.mp hm
    obtain ⟨o', _, h2, _⟩ := k.at_ c hc
    rw [h2] at h; cases h
  · exact h
theorem setl_sub {ps : List Addr} (h : Same S H) : Same (setl S H ps) H := fun q o e => by
  unfold setl at e
  split at e
  · exact e
  · exact h q o e
theorem setl_at (k : CellsOk cs H S) {c : Cell} (hc : c ∈ cs) : ∃ o, setl S H (cs.map (·.p)) c.p = some o ∧ c.ok (setl S H (cs.map (·.p))) o := by
  obtain ⟨o, h1, h2, h3⟩ := k.at_ c hc
  refine ⟨o, ?_, c.mono (setl_same k) h3⟩
  unfold setl
  rw [if_pos (List.mem_map.mpr ⟨c, hc, rfl⟩)]
  exact h1
/-- where all these cells are settled, a T is a T' -/
def Stl (cs : List Cell) (T T' : Ty) : Prop := ∀ (S : Hp) (v : V), (∀ c ∈ cs, ∃ o, S c.p = some o ∧ c.ok S o) → T.ok S v → T'.ok S v
theorem Gr.setl {M : Addr → Prop} (g : Gr M H S H1 S1) (k : CellsOk cs H1 S1) (hn : ∀ c ∈ cs, H c.p = none) : Gr M H S H1 (setl S1 H1 (cs.map (·.p))) :=
  ⟨g.keep, g.there, g.s.trans (setl_same k), setl_sub g.sub, fun q o h => by
    unfold Sw.setl at h
    split at h
    · rename_i hm
      obtain ⟨c, hc, rfl⟩ := List.mem_map.mp hm
      exact .inr (hn c hc)
    · exact g.new q o h⟩
theorem Stt.setl (s : Stt F Γ C σ H S) (hp : Pks C cs Cr) (hn : ∀ c ∈ cs, F.H c.p = none) : Stt F Γ Cr σ H (setl S H (cs.map (·.p))) := by
  have s0 := s.perm hp.perm
  have k := s0.cl.left
  have nd := s0.cl.nd
  rw [List.map_append] at nd
  have dis := (List.nodup_append.mp nd).2.2
  refine ⟨s.g.setl k hn, s.len, fun j U e => ?_, ⟨fun c hc => ?_, (List.nodup_append.mp nd).2.1⟩, fun c hc => s0.can c (List.mem_append_right _ hc)⟩
  · obtain ⟨v, e1, e2⟩ := s.sl j U e
    exact ⟨v, e1, U.mono (setl_same k) e2⟩
  · obtain ⟨o, h1, h2, h3⟩ := s0.cl.at_ c (List.mem_append_right _ hc)
    refine ⟨o, h1, ?_, c.mono (setl_same k) h3⟩
    unfold Sw.setl
    rw [if_neg fun hm => dis c.p hm c.p (List.mem_map.mpr ⟨c, hc, rfl⟩) rfl]
    exact h2
/-- cells settle; slot i is told anew -/
theorem ss_setl (i : Nat) (hp : Pks C cs Cr) (hx : Γ[i]? = some (some T)) (hs : Stl cs T T') (hn : ∀ c ∈ cs, F.H c.p = none) (h : SS F u (Γ.set i (some T')) Cr O) : SS F u Γ C O := fun σ H S s D o => by
  have k := (s.perm hp.perm).cl.left
  have s1 := s.setl hp hn
  obtain ⟨v, ev, kv⟩ := s1.sl i _ hx
  have s2 : Stt F (Γ.set i (some T')) Cr (σ.set i (some v)) H (setl S H (cs.map (·.p))) := s1.set (hs _ v (fun c hc => setl_at k hc) kv)
  have e : σ.set i (some v) = σ := by
    obtain ⟨hl, e⟩ := List.getElem?_eq_some_iff.mp ev
    rw [← e, List.set_getElem_self]
  rw [e] at s2
  exact h σ H _ s2 D (o.grow (setl_same k))
/-! rules of SM -/
theorem m_e (h : SE true te Γ C T) : SM te Γ C (fun _ : Unit => True) (fun _ => T) (fun _ => C) (fun _ => []) := fun F σ H S s Q q => h F σ H S s Q fun v H1 S1 g k => q () v H1 S1 trivial g.s k (fun _ z => (nomatch z)) (s.grow g)
theorem m_o {ds : List PyData} (h : SO te Γ C ds) : SM te Γ C (fun p : Addr => ∀ x ∈ C, x.p ≠ p) (fun p => tV (.ref p)) (fun p => cL p ds :: C) (fun p => [p]) := fun F σ H S s Q q => h F σ H S s Q fun p vs H1 S1 g hp h1 h2 k =>
  q p _ H1 S1 (fun x hx e => by
    obtain ⟨o, q, _⟩ := s.cl.at_ x hx
    rw [e, hp] at q; cases q) g.s rfl (fun q hq => by rw [List.mem_singleton.mp hq]; exact s.g.there _ hp) (s.new (c := cL p ds) g hp h1 h2 ⟨vs, rfl, k⟩)
variable {α ρ : Type} {post : ρ → Prop} {Tm : ρ → Ty} {Cm : ρ → List Cell} {Nm : ρ → List Addr}
theorem ss_setM (he : SM te Γ C post Tm Cm Nm) (h : ∀ y, post y → (∀ q ∈ Nm y, F.H q = none) → SS F u (Γ.set i (some (Tm y))) (Cm y) O) : SS F (tSeq (tAsg te (gName i)) u) Γ C O := fun σ H S s D o =>
  he F σ H S s _ fun y v H1 S1 hy g k hn s1 => h y hy hn _ H1 S1 (s1.set k) D (o.grow g)
theorem ss_dropM (he : SM te Γ C post Tm Cm Nm) (h : ∀ y, post y → (∀ q ∈ Nm y, F.H q = none) → SS F u Γ (Cm y) O) : SS F (tSeq (tDrop te) u) Γ C O := fun σ H S s D o =>
  he F σ H S s _ fun y v H1 S1 hy g k hn s1 => h y hy hn _ H1 S1 s1 D (o.grow g)
theorem ss_retM (he : SM te Γ C post Tm Cm Nm) (h : ∀ y v σ H S, post y → (∀ q ∈ Nm y, F.H q = none) → Stt F Γ (Cm y) σ H S → (Tm y).ok S v → O.rt v H S) : SS F (tSeq (tRet te) u) Γ C O := fun σ H S s D o =>
  he F σ H S s _ fun y v H1 S1 hy g k hn s1 => o.rt v H1 S1 g (h y v σ H1 S1 hy hn s1 k)
/-! calls -/
variable {p : Pr α ρ} {E : XK} {ta : TA} {Ts : List Ty}
theorem m_call (a : α) (h : SA true ta Γ C Ts) (hT : Ts = p.args a) (hc : p.cond a) (hw : Pks C (p.cin a) Cr) (hr : Pks (Cr.map Cell.ro) ((p.rd a).map Cell.ro) Cq) (hwt : ∀ c ∈ p.cin a, c.w = true) (hx : p.exc a = none) :
    SM (tCall (spG p) [] E ta) Γ C (p.post a) (p.res a) (fun y => p.cout a y ++ Cr) (p.nw a) := fun F σ H S s Q q => h F σ H S s _ fun vs H1 S1 g k => by
  subst hT
  rw [List.append_nil]
  have s1 := s.grow g
  refine ⟨a, S1, g.sub, k, hc, s1.cl.pick hw hr, fun _ y v H2 S2 r => ?_, fun c e => by rw [hx] at e; cases e⟩
  exact q y v H2 S2 r.post (g.s.trans r.g.s) r.res (fun z hz => s1.g.there _ (r.nw z hz)) (s1.call hw hwt r.g r.cl r.nw r.fr)
/-- nothing written, what is handed back settles -/
theorem e_callS (a : α) (h : SA true ta Γ C Ts) (hT : Ts = p.args a) (hc : p.cond a) (hci : p.cin a = []) (hr : Pks (C.map Cell.ro) ((p.rd a).map Cell.ro) Cq) (hx : p.exc a = none) (hs : ∀ y, p.post a y → Stl (p.cout a y) (p.res a y) T) :
    SE true (tCall (spG p) [] E ta) Γ C T := fun F σ H S s Q q => h F σ H S s _ fun vs H1 S1 g k => by
  subst hT
  rw [List.append_nil]
  have s1 := s.grow g
  refine ⟨a, S1, g.sub, k, hc, hci ▸ s1.cl.pick .nil hr, fun _ y v H2 S2 r => ?_, fun c e => by rw [hx] at e; cases e⟩
  have g2 : Gr0 H1 S1 H2 S2 := r.g.weak fun q hq => by rw [hci] at hq; exact wrs_nil hq
  have g3 : Gr0 H1 S1 H2 (Sw.setl S2 H2 ((p.cout a y).map (·.p))) := g2.setl r.cl fun c hc => by
    rcases r.fr c hc with z | z
    · rw [hci] at z; exact (wrs_nil z).elim
    · exact r.nw _ z
  exact q v H2 _ (g.trans g3) (hs y r.post _ v (fun c hc => setl_at r.cl hc) ((p.res a y).mono (setl_same r.cl) r.res))
/-- nothing written, nothing new, all data -/
theorem stl_nil : Stl [] T T := fun _ _ _ h => h
/-! bodies -/
/-- what is wanted of a def -/
def retG (F : Fr0) (p : Pr α ρ) (a : α) (E : XK) : Out :=
  { nx := fun _ H S => p.exc a = none ∧ ∃ y, p.post a y ∧ Gr F.M F.H F.S H S ∧ (p.res a y).ok S .non ∧ CellsOk (p.cout a y) H S ∧ (∀ q ∈ p.nw a y, F.H q = none) ∧ (∀ c ∈ p.cout a y, F.M c.p ∨ c.p ∈ p.nw a y)
    rt := fun v H S => p.exc a = none ∧ ∃ y, p.post a y ∧ Gr F.M F.H F.S H S ∧ (p.res a y).ok S v ∧ CellsOk (p.cout a y) H S ∧ (∀ q ∈ p.nw a y, F.H q = none) ∧ (∀ c ∈ p.cout a y, F.M c.p ∨ c.p ∈ p.nw a y)
    W := fun cls d _ H => E cls d H
    xc := fun cls _ _ H S => p.exc a = some cls ∧ Gr F.M F.H F.S H S }
theorem ss_retG {a : α} (y : ρ) (he : SE true te Γ C (p.res a y)) (hy : p.post a y) (hp : Pks C (p.cout a y) Cr) (hn : ∀ q ∈ p.nw a y, F.H q = none) (hf : ∀ c ∈ p.cout a y, F.M c.p ∨ c.p ∈ p.nw a y) (hx : p.exc a = none := by rfl) (hO : O.rt = (retG F p a E).rt := by rfl) : SS F (tSeq (tRet te) u) Γ C O :=
  ss_ret he fun v σ H S s k => hO ▸ ⟨hx, y, hy, s.g, k, (s.cl.perm hp.perm).left, hn, hf⟩
theorem ss_endG {a : α} (y : ρ) (he : ∀ S, (p.res a y).ok S .non) (hy : p.post a y) (hp : Pks C (p.cout a y) Cr) (hn : ∀ q ∈ p.nw a y, F.H q = none) (hf : ∀ c ∈ p.cout a y, F.M c.p ∨ c.p ∈ p.nw a y) (hx : p.exc a = none := by rfl) : SS F tNext Γ C (retG F p a E) :=
  ss_nil fun σ H S s => ⟨hx, y, hy, s.g, he S, (s.cl.perm hp.perm).left, hn, hf⟩
theorem ss_retGM {a : α} (he : SM te Γ C post Tm Cm Nm) (f : ρ → ρ) (h : ∀ y, post y → (∀ q ∈ Nm y, F.H q = none) → ∃ Cr, Tm y = p.res a (f y) ∧ p.post a (f y) ∧ Pks (Cm y) (p.cout a (f y)) Cr ∧ (∀ q ∈ p.nw a (f y), F.H q = none) ∧ (∀ c ∈ p.cout a (f y), F.M c.p ∨ c.p ∈ p.nw a (f y))) (hx : p.exc a = none := by rfl) (hO : O.rt = (retG F p a E).rt := by rfl) :
    SS F (tSeq (tRet te) u) Γ C O := ss_retM he fun y v σ H S hy hn s k => by
  obtain ⟨Cr, e, h1, h2, h3, h4⟩ := h y hy hn
  exact hO ▸ ⟨hx, f y, h1, s.g, e ▸ k, (s.cl.perm h2.perm).left, h3, h4⟩
end
section
variable {P : Program} {w : World} {K : PySem.W.Frag} {mg : Str → Option Value} {base : Heap} {x : Str} {st : Stmt} {N ps : List Str} {k : Nat} {α ρ : Type} {p : Pr α ρ}
theorem gam_okG {F : Fr0} {vs : List V} {H S : Hp} {a : α} (h : Tys S (p.args a) vs) (g : Gr F.M F.H F.S H S) (hn : (p.args a).length ≤ N.length) (cl : CellsOk (p.rd a ++ p.cin a) H S) (hM : F.M = wrs (p.cin a)) : Stt F (gam (p.args a) N.length) ((p.rd a).map Cell.ro ++ p.cin a) (L2.start N vs) H S :=
  gam_ok h g hn ⟨fun c hc => by
    rcases List.mem_append.mp hc with hc | hc
    · obtain ⟨c0, h0, rfl⟩ := List.mem_map.mp hc
      exact cl.at_ c0 (List.mem_append_left _ h0)
    · exact cl.at_ c (List.mem_append_right _ hc), by
    have := cl.nd
    rw [List.map_append] at this ⊢
    rwa [ro_map]⟩ fun c hc hw => by
    rcases List.mem_append.mp hc with hc | hc
    · obtain ⟨c0, h0, rfl⟩ := List.mem_map.mp hc
      cases hw
    · exact .inl (hM ▸ ⟨c, hc, rfl⟩)
/-- a def that raises nothing -/
theorem fnk_G {f : Addr} {fd : FuncData} (Fn : Fun K x x st f fd) (sc : FnScope N ps (defScope st)) (hlen : ∀ a, (p.args a).length = ps.length)
    (body : ∀ (cdv : Value) (A : Around) (outer : List Env) (s : Shared) (H : Hp) (E : XK), Room k (A.deeper (PyProof.Rows.envOfC x (defScope st) s.heap.objs.size f cdv)) →
      ∃ t, PSs (cxOf CX0 P w K mg base N x (defScope st) f cdv A outer s H E).nox (defBody st) t ∧ ∀ (a : α) (F : Fr0), F.M = wrs (p.cin a) → p.cond a → p.exc a = none → SS F t (gam (p.args a) N.length) ((p.rd a).map Cell.ro ++ p.cin a) (retG F p a E)) (hx : ∀ a, p.exc a = none := by exact fun _ => rfl) : FnOk P w K mg base CX0 (k + 1) f fd ps (spG p) := by
  have hpl : ps.length ≤ N.length := by have := congrArg List.length sc.pre; rw [List.length_take] at this; omega
  refine Fn.ok sc (fun vs H Q E h => ?_) (fun cdv A outer s H vs Q E hr h => ?_)
  · obtain ⟨a, S, _, h, _⟩ := h
    rw [Tys.len h, hlen]
  · obtain ⟨a, S, hS, ht, hc, hcl, q, qx⟩ := h
    obtain ⟨t, h1, h2⟩ := body cdv A outer s H E hr
    refine ⟨t, h1, h2 a ⟨wrs (p.cin a), H, S⟩ rfl hc (hx a) _ H S (gam_okG ht (Gr.refl hS) (by rw [hlen]; exact hpl) hcl rfl) _ ⟨fun σ H' S' _ h => ?_, fun v H' S' _ h => ?_, fun _ _ _ _ z => z.elim, fun _ _ _ _ z => z.elim, fun cls d _ H' S' _ h => qx cls h.1 d H' S' h.2⟩⟩
    · obtain ⟨hx, y, y1, y2, y3, y4, y5, y6⟩ := h
      exact q hx y _ H' S' ⟨y1, y2, y3, y4, y5, y6⟩
    · obtain ⟨hx, y, y1, y2, y3, y4, y5, y6⟩ := h
      exact q hx y _ H' S' ⟨y1, y2, y3, y4, y5, y6⟩
theorem fn_G (D : Def K mg x st ps) (sc : FnScope N ps (defScope st)) (hlen : ∀ a, (p.args a).length = ps.length)
    (body : ∀ (f : Addr) (cdv : Value) (A : Around) (outer : List Env) (s : Shared) (H : Hp) (E : XK), Room k (A.deeper (PyProof.Rows.envOfC x (defScope st) s.heap.objs.size f cdv)) →
      ∃ t, PSs (cxOf CX0 P w K mg base N x (defScope st) f cdv A outer s H E).nox (defBody st) t ∧ ∀ (a : α) (F : Fr0), F.M = wrs (p.cin a) → p.cond a → p.exc a = none → SS F t (gam (p.args a) N.length) ((p.rd a).map Cell.ro ++ p.cin a) (retG F p a E)) (hx : ∀ a, p.exc a = none := by exact fun _ => rfl) : Cal P w K mg base (k + 1) x ps (spG p) := by
  obtain ⟨f, fd, Fn, hm, hb⟩ := D.ex
  exact ⟨f, fd, fnk_G Fn sc hlen (body f) hx, hm, Fn.kp, hb⟩
end
/-! further -/
section
variable {F : Fr0} {Γ Γ' : List Sl} {C C' Cr Cq cs : List Cell} {te tb to : TE} {T T' : Ty} {O : Out} {u : TS} {i : Nat} {K : PySem.W.Frag} {m : Bool}
theorem e_tupV {ta : TA} {Ts : List Ty} (h : SA true ta Γ C Ts) (hl : Ts.length ≤ 100000) : SE true (tTup ta) Γ C (tTV Ts) := fun F σ H S s Q q => h F σ H S s _ fun vs H1 S1 g k => by
  refine ⟨by rw [Tys.len k]; exact Nat.le_trans hl (by decide), fun p hp => ?_⟩
  have g2 := Gr.allocS (M := M0) g.sub (o := .tup vs) hp
  exact q _ _ _ (g.trans g2) ⟨p, vs, rfl, upd_same, Tys.mono g2.s k⟩
theorem r_ixTV {Ts : List Ty} {n : Nat} (e : Ts[n]? = some T) : R2k true (rIxT K) (tTV Ts) (tI (n : Int)) T := fun x y H S s hx hy Q q => by
  obtain ⟨a, xs, rfl, h1, h2⟩ := hx
  obtain ⟨v, e1, e2⟩ := Tys.get h2 e
  rw [dp_int hy]
  exact ⟨a, xs, n, v, rfl, rfl, SqT.of (s _ _ h1), atI_nat e1, q v H S (Gr.refl s) e2⟩
theorem r_ixLV {Ts : List Ty} {n : Nat} (e : Ts[n]? = some T) : R2k true (rIxL K) (tLV Ts) (tI (n : Int)) T := fun x y H S s hx hy Q q => by
  obtain ⟨a, xs, rfl, h1, h2⟩ := hx
  obtain ⟨v, e1, e2⟩ := Tys.get h2 e
  rw [dp_int hy]
  exact ⟨a, xs, n, v, rfl, rfl, SqL.of (s _ _ h1), atI_nat e1, q v H S (Gr.refl s) e2⟩
/-- seen with the cells in their place -/
theorem e_seen {d : PyData} (h : SE true te Γ C T) (hp : Pks (C.map Cell.ro) (cs.map Cell.ro) Cr) (hs : Stl cs T (tD d)) : SE false te Γ C (tD d) := fun F σ H S s Q q => h F σ H S s Q fun v H1 S1 g k => by
  have s1 := s.grow g
  have k1 : CellsOk cs H1 S1 := CellsOk.ro.mp ((CellsOk.ro.mpr s1.cl).perm hp.perm).left
  exact q v H1 S1 g (dp_mono (setl_sub g.sub) _ _ (hs _ v (fun c hc => setl_at k1 hc) (T.mono (setl_same k1) k)))
/-- e.append(x), e an own list at the cells' head -/
theorem ss_appE {p : Addr} {ds : List PyData} {d : PyData} {T' : String} (ho : SE true to Γ (cL p ds :: C) (tV (.ref p))) (he : SE true te Γ (cL p ds :: C) (tD d)) (hl : ds.length < 100000) (h : SS F u Γ (cL p (ds ++ [d]) :: C) O) (hT : T' = "list") :
    SS F (tSeq (tDrop (tBM K T' rAppend to (tCons te tNil))) u) Γ (cL p ds :: C) O := fun σ H S s D o => by
  subst hT
  refine ho F σ H S s _ fun v H0 S0 g0 kv => ?_
  have kv : v = .ref p := kv
  subst kv
  obtain ⟨o1, q1, q2, vs1, rfl, q3⟩ := (s.grow g0).cl.head
  refine ⟨.inl ⟨rfl, _, SqL.of q1⟩, he F σ H0 S0 (s.grow g0) _ fun w H1 S1 g k => ?_⟩
  have s1 := s.grow (g0.trans g)
  obtain ⟨o2, e1, e2, vs, rfl, e3⟩ := s1.cl.head
  refine ⟨p, vs, w, rfl, rfl, e1, by rw [dps_len e3]; exact Nat.lt_of_lt_of_le hl (by decide), ?_⟩
  exact h σ _ S1 (s1.write (c' := cL p (ds ++ [d])) rfl ⟨_, rfl, dps_app e3 (.cons k .nil)⟩) D (o.grow (g0.trans g).s)
end
/-! argument lists with a call that changes cells -/
def SAM {ρ : Type} (ta : TA) (Γ : List Sl) (C : List Cell) (post : ρ → Prop) (Ts : ρ → List Ty) (C' : ρ → List Cell) (N : ρ → List Addr) : Prop := ∀ (F : Fr0) (σ : L2.St) (H S : Hp), Stt F Γ C σ H S → ∀ Q : List V → Hp → Prop,
  (∀ y vs H' S', post y → Same S S' → Tys S' (Ts y) vs → (∀ q ∈ N y, F.H q = none) → Stt F Γ (C' y) σ H' S' → Q vs H') → ta σ H Q
section
variable {F : Fr0} {Γ Γ' : List Sl} {C Cr Cq cs : List Cell} {te tb ti to : TE} {tr ta : TA} {T T' : Ty} {O : Out} {u : TS} {i : Nat} {K : PySem.W.Frag} {m : Bool} {ρ : Type} {post : ρ → Prop} {Tm : ρ → Ty} {Tsm : ρ → List Ty} {Cm : ρ → List Cell} {Nm : ρ → List Addr}
theorem am_m (h : SM te Γ C post Tm Cm Nm) (hr : ∀ y, post y → SA true tr Γ (Cm y) (Tsm y)) : SAM (tCons te tr) Γ C post (fun y => Tm y :: Tsm y) Cm Nm := fun F σ H S s Q q =>
  h F σ H S s _ fun y v H1 S1 hy g k hn s1 => hr y hy F σ H1 S1 s1 _ fun vs H2 S2 g2 k2 => q y _ H2 S2 hy (g.trans g2.s) ⟨(Tm y).mono g2.s k, k2⟩ hn (s1.grow g2)
theorem am_e (h : SE true te Γ C T) (hr : SAM tr Γ C post Tsm Cm Nm) : SAM (tCons te tr) Γ C post (fun y => T :: Tsm y) Cm Nm := fun F σ H S s Q q =>
  h F σ H S s _ fun v H1 S1 g1 k1 => hr F σ H1 S1 (s.grow g1) _ fun y vs H2 S2 hy g2 k2 hn s2 => q y _ H2 S2 hy (g1.s.trans g2) ⟨T.mono g2 k1, k2⟩ hn s2
theorem m_tup (h : SAM ta Γ C post Tsm Cm Nm) (hl : ∀ y, (Tsm y).length ≤ 100000) : SM (tTup ta) Γ C post (fun y => tTV (Tsm y)) Cm Nm := fun F σ H S s Q q => h F σ H S s _ fun y vs H1 S1 hy g k hn s1 => by
  refine ⟨by rw [Tys.len k]; exact Nat.le_trans (hl y) (by decide), fun p hp => ?_⟩
  have g2 := Gr.allocS (M := M0) s1.sub (o := .tup vs) hp
  exact q y _ _ _ hy (g.trans g2.s) ⟨p, vs, rfl, upd_same, Tys.mono g2.s k⟩ hn (s1.grow g2)
/-! lists of any values -/
def cLV (p : Addr) (Ts : List Ty) : Cell := ⟨p, fun S o => ∃ vs, o = .lst vs ∧ Tys S Ts vs, fun e ⟨vs, h1, h2⟩ => ⟨vs, h1, Tys.mono e h2⟩, true⟩
theorem tys_set {S : Hp} {v : V} (h : T.ok S v) : ∀ {Ts : List Ty} {vs : List V} (n : Nat), Tys S Ts vs → Tys S (Ts.set n T) (vs.set n v)
  | [], [], _, _ => trivial
  | _ :: _, _ :: _, 0, k => ⟨h, k.2⟩
  | _ :: _, _ :: _, n + 1, k => ⟨k.1, tys_set h n k.2⟩
  | [], _ :: _, _, k => k.elim
  | _ :: _, [], _, k => k.elim
theorem tys_app {S : Hp} : ∀ {Ts Us : List Ty} {vs us : List V}, Tys S Ts vs → Tys S Us us → Tys S (Ts ++ Us) (vs ++ us)
  | [], _, [], _, _, h => h
  | _ :: _, _, _ :: _, _, k, h => ⟨k.1, tys_app k.2 h⟩
  | [], _, _ :: _, _, k, _ => k.elim
  | _ :: _, _, [], _, k, _ => k.elim
/-- a cell told more weakly -/
theorem ss_cell {c c' : Cell} (hp : c'.p = c.p) (hw : c'.w = c.w) (h : ∀ S o, c.ok S o → c'.ok S o) (hs : SS F u Γ (c' :: C) O) : SS F u Γ (c :: C) O := fun σ H S s D o => by
  refine hs σ H S ⟨s.g, s.len, s.sl, ?_, fun x hx hxw => ?_⟩ D o
  · obtain ⟨ob, h1, h2, h3⟩ := s.cl.head
    exact s.cl.tail.cons (by rw [hp]; exact h1) (by rw [hp]; exact h2) (h S ob h3) (by rw [hp]; exact s.cl.ne)
  · rcases List.mem_cons.mp hx with e | hx
    · subst e; rw [hp]; exact s.can c List.mem_cons_self (hw ▸ hxw)
    · exact s.can x (List.mem_cons_of_mem _ hx) hxw
theorem ss_cellV {p : Addr} {ds : List PyData} (hs : SS F u Γ (cLV p (ds.map tD) :: C) O) : SS F u Γ (cL p ds :: C) O :=
  ss_cell (c := cL p ds) (c' := cLV p (ds.map tD)) rfl rfl (fun S o ⟨vs, h1, h2⟩ => ⟨vs, h1, tys_of h2⟩) hs
theorem Pk.mem {c : Cell} {C C' : List Cell} (h : Pk C c C') : c ∈ C := h.perm.mem_iff.mpr List.mem_cons_self
/-- an item of an own list, read -/
theorem e_ixE {p : Addr} {ds : List PyData} {k : Int} {d : PyData} (ho : SE true to Γ C (tV (.ref p))) (hc : cL p ds ∈ C) (hb : SE true tb Γ C (tI k)) (e : atI ds k = some d) : SE m (tOp (rIxL K) to tb) Γ C (tD d) := fun F σ H S s Q q => by
  refine ho F σ H S s _ fun v H0 S0 g0 kv => ?_
  have kv : v = .ref p := kv
  subst kv
  refine hb F σ H0 S0 (s.grow g0) _ fun y H1 S1 g1 ky => ?_
  have g := g0.trans g1
  obtain ⟨o, h1, h2, vs, rfl, h3⟩ := (s.grow g).cl.at_ _ hc
  obtain ⟨v, e1, e2⟩ := dps_atI h3 e
  rw [dp_int ky]
  refine ⟨p, vs, k, v, rfl, rfl, SqL.of h1, e1, q v H1 S1 g ?_⟩
  cases m with
  | true => exact e2
  | false => exact dp_mono g.sub _ _ e2
theorem e_ixV {p : Addr} {Ts : List Ty} {n : Nat} (ho : SE true to Γ C (tV (.ref p))) (hc : cLV p Ts ∈ C) (hb : SE true tb Γ C (tI (n : Int))) (e : Ts[n]? = some T) : SE true (tOp (rIxL K) to tb) Γ C T := fun F σ H S s Q q => by
  refine ho F σ H S s _ fun v H0 S0 g0 kv => ?_
  have kv : v = .ref p := kv
  subst kv
  refine hb F σ H0 S0 (s.grow g0) _ fun y H1 S1 g1 ky => ?_
  have g := g0.trans g1
  obtain ⟨o, h1, h2, vs, rfl, h3⟩ := (s.grow g).cl.at_ _ hc
  obtain ⟨v, e1, e2⟩ := Tys.get h3 e
  rw [dp_int ky]
  exact ⟨p, vs, n, v, rfl, rfl, SqL.of h1, atI_nat e1, q v H1 S1 g e2⟩
/-- e[k] = x, e an own list -/
theorem ss_setItemE {p : Addr} {ds : List PyData} {d : PyData} {k : Int} {n : Nat} (he : SE true te Γ C (tD d)) (ho : SE true to Γ C (tV (.ref p))) (hi : SE true ti Γ C (tI k)) (hc : Pk C (cL p ds) Cr) (hk : ixN ds.length k = some n) (h : SS F u Γ (cL p (ds.set n d) :: Cr) O) :
    SS F (tSeq (tAsg te (gSub to ti rSetL)) u) Γ C O := fun σ H S s D o => he F σ H S s _ fun w H1 S1 g1 k1 => by
  refine ho F σ H1 S1 (s.grow g1) _ fun v H2 S2 g2 kv => ?_
  have kv : v = .ref p := kv
  subst kv
  refine hi F σ H2 S2 (s.grow (g1.trans g2)) _ fun z H3 S3 g3 k3 => ?_
  have s3 := (s.grow ((g1.trans g2).trans g3)).perm hc.perm
  obtain ⟨o2, e1, e2, vs, rfl, e3⟩ := s3.cl.head
  refine ⟨p, vs, k, n, rfl, dp_int k3, e1, by rw [dps_len e3]; exact hk, ?_⟩
  exact h σ _ S3 (s3.write (c' := cL p (ds.set n d)) rfl ⟨_, rfl, dps_set (dp_mono (g2.trans g3).s _ _ k1) n e3⟩) D (o.grow ((g1.trans g2).trans g3).s)
/-- xs[k] = x, xs an own list of any values, x made by what changes cells -/
theorem ss_setItemM {p : Addr} {Ts : List Ty} {n : Nat} (he : SM te Γ C post Tm Cm Nm) (hx : Γ[i]? = some (some (tV (.ref p)))) (hi : ∀ y, post y → SE true ti Γ (Cm y) (tI (n : Int))) (Cr : ρ → List Cell) (hc : ∀ y, Pk (Cm y) (cLV p Ts) (Cr y)) (hn : n < Ts.length)
    (h : ∀ y, post y → (∀ q ∈ Nm y, F.H q = none) → SS F u Γ (cLV p (Ts.set n (Tm y)) :: Cr y) O) :
    SS F (tSeq (tAsg te (gSub (tVar i) ti rSetL)) u) Γ C O := fun σ H S s D o => he F σ H S s _ fun y w H1 S1 hy g1 k1 hnw s1 => by
  obtain ⟨v, ev, kv⟩ := s1.sl i _ hx
  have kv : v = .ref p := kv
  subst kv
  refine ⟨_, ev, hi y hy F σ H1 S1 s1 _ fun z H3 S3 g3 k3 => ?_⟩
  have s3 := (s1.grow g3).perm (hc y).perm
  obtain ⟨o2, e1, e2, vs, rfl, e3⟩ := s3.cl.head
  refine ⟨p, vs, (n : Int), n, rfl, dp_int k3, e1, ?_, ?_⟩
  · rw [Tys.len e3]
    unfold ixN
    rw [if_pos (by omega), if_pos (by omega)]
    rfl
  · exact h y hy hnw σ _ S3 (s3.write (c' := cLV p (Ts.set n (Tm y))) rfl ⟨_, rfl, tys_set ((Tm y).mono g3.s k1) n e3⟩) D (o.grow (g1.trans g3.s))
theorem e_notTV {Ts : List Ty} (h : SE true te Γ C (tTV Ts)) : SE true (tNotN te) Γ C (tBo true) := fun F σ H S s Q q => h F σ H S s _ fun v H1 S1 g k => by
  obtain ⟨a, vs, rfl, _⟩ := k
  exact q _ H1 S1 g (.bl _)
theorem stl_list {p : Addr} {ds : List PyData} : Stl [cL p ds] (tV (.ref p)) (tLs ds) := fun S v hc h => by
  obtain ⟨o, q1, vs, rfl, q2⟩ := hc _ List.mem_cons_self
  have h : v = .ref p := h
  subst h
  exact .lst q1 q2
end
end Sw
/-! the law's draws, lines as lists of whole numbers -/
namespace Sw
open PySem L2
/-- a list of whole numbers as data -/
abbrev dIs (ns : List Int) : PyData := .list (ns.map .int)
abbrev tIs (ns : List Int) : Ty := tD (dIs ns)
def mix (c k m : Int) : Int := (c % 2147483647 + 12345) * (48271 + 6 * k) % 1000000007 / 7 % m
theorem mix_lo {c k m : Int} (h : 0 < m) : 0 ≤ mix c k m := Int.emod_nonneg _ (by omega)
theorem mix_hi {c k m : Int} (h : 0 < m) : mix c k m < m := Int.emod_lt_of_pos _ h
def num4 : List Int := [1000000000, -1000000000, 999999999, -999999999]
def num (c k : Int) : Int :=
  if mix c k 9 = 0 then c % 2000000001 - 1000000000
  else if mix c k 9 = 1 then num4.getD (mix c (k + 1) 4).toNat 0
  else mix c (k + 2) 9 - 4
theorem num_bd (c k : Int) : -1000000000 ≤ num c k ∧ num c k ≤ 1000000000 := by
  unfold num
  split
  · omega
  · split
    · have h1 := mix_lo (c := c) (k := k + 1) (m := 4) (by decide)
      have h2 := mix_hi (c := c) (k := k + 1) (m := 4) (by decide)
      generalize mix c (k + 1) 4 = z at h1 h2
      have : z = 0 ∨ z = 1 ∨ z = 2 ∨ z = 3 := by omega
      rcases this with rfl | rfl | rfl | rfl <;> decide
    · have h1 := mix_lo (c := c) (k := k + 2) (m := 9) (by decide)
      have h2 := mix_hi (c := c) (k := k + 2) (m := 9) (by decide)
      omega
def cellAt (ns : List Int) (k : Int) : Int := ns.getD k.toNat 0
/-- the sum of products -/
def dot : List Int → List Int → Int
  | x :: xs, y :: ys => x * y + dot xs ys
  | _, _ => 0
def wl (line nums : List Int) : Int := line.headD 0 + dot line.tail nums
def Sm (xs : List Int) : Prop := ∀ x ∈ xs, -(2 ^ 64) < x ∧ x < 2 ^ 64
theorem Sm.tail {xs : List Int} (h : Sm xs) : Sm xs.tail := fun x hx => h x (List.mem_of_mem_tail hx)
theorem zip_map_int (xs ys : List Int) : (xs.map PyData.int).zip (ys.map PyData.int) = (xs.zip ys).map fun p => (PyData.int p.1, PyData.int p.2) := by
  rw [List.zip_map]
  rfl
theorem cutD_tail (xs : List PyData) : cutD xs (some 1) none = xs.tail := by
  unfold cutD
  rw [show HT.sIx xs.length 0 (some 1) = min 1 xs.length from HT.sIx_nat xs.length 0 1, HT.sIx_none]
  cases xs with
  | nil => rfl
  | cons x r =>
    rw [show min 1 (x :: r).length = 1 by rw [List.length_cons]; omega]
    show (List.take ((x :: r).length - 1) r) = r
    rw [List.length_cons, Nat.add_sub_cancel]
    exact List.take_length
def dotz (zs : List (Int × Int)) : Int := (zs.map fun p => p.1 * p.2).sum
theorem dot_zip : ∀ (xs ys : List Int), dotz (xs.zip ys) = dot xs ys
  | [], _ => rfl
  | _ :: _, [] => rfl
  | x :: xs, y :: ys => by
    show ((x * y) :: ((xs.zip ys).map fun p => p.1 * p.2)).sum = x * y + dot xs ys
    rw [List.sum_cons, ← dot_zip xs ys]
    rfl
theorem sum_snoc (xs : List Int) (x : Int) : (xs ++ [x]).sum = xs.sum + x := by simp
theorem dotz_take {zs : List (Int × Int)} {i : Nat} {p : Int × Int} (h : zs[i]? = some p) : dotz (zs.take (i + 1)) = dotz (zs.take i) + p.1 * p.2 := by
  unfold dotz
  rw [List.take_add_one, h, List.map_append]
  show (_ ++ [p.1 * p.2]).sum = _
  rw [sum_snoc]
theorem atI_0 {α : Type} {x : α} {xs : List α} : atI (x :: xs) 0 = some x := atI_nat (j := 0) rfl
theorem atI_map {α β : Type} (f : α → β) {xs : List α} {i : Int} {x : α} (h : atI xs i = some x) : atI (xs.map f) i = some (f x) := by
  unfold atI at h ⊢
  rw [List.length_map]
  cases hn : ixN xs.length i with
  | none => rw [hn] at h; cases h
  | some j =>
    rw [hn] at h
    show (xs.map f)[j]? = some (f x)
    rw [List.getElem?_map]
    have h : xs[j]? = some x := h
    rw [h]; rfl
theorem atI_of {α : Type} {xs : List α} {i : Int} {j : Nat} {x : α} (e : i = (j : Int)) (h : xs[j]? = some x) : atI xs i = some x := by
  subst e; exact atI_nat h
theorem atI_D {xs : List Int} {i : Int} (h0 : 0 ≤ i) (h1 : i < xs.length) : atI xs i = some (xs.getD i.toNat 0) := by
  have hl : i.toNat < xs.length := by omega
  refine atI_of (j := i.toNat) (by omega) ?_
  rw [List.getElem?_eq_getElem hl, List.getD_eq_getElem?_getD, List.getElem?_eq_getElem hl]
  rfl
theorem atI_Di {xs : List Int} {i : Int} (h0 : 0 ≤ i) (h1 : i < xs.length) : atI (xs.map PyData.int) i = some (.int (xs.getD i.toNat 0)) := atI_map PyData.int (atI_D h0 h1)
/-! equality of data -/
def okd (n : Nat) (d : PyData) : Prop := d.canLay0 = true ∧ d.depth ≤ n
theorem okd.shaped {n : Nat} {d : PyData} (h : okd n d) (hn : n ≤ 64 := by decide) : SeqAt.shaped d = true := by
  unfold SeqAt.shaped
  rw [h.1, decide_eq_true (Nat.le_trans h.2 hn)]
  rfl
theorem okd.mono {n k : Nat} {d : PyData} (h : okd n d) (hn : n ≤ k) : okd k d := ⟨h.1, Nat.le_trans h.2 hn⟩
theorem okd_all {n : Nat} : ∀ {ds : List PyData}, (∀ d ∈ ds, okd n d) → PyData.canLayAll0 ds = true ∧ PyData.depthAll ds ≤ n
  | [], _ => ⟨by unfold PyData.canLayAll0; rfl, by unfold PyData.depthAll; exact Nat.zero_le _⟩
  | d :: ds, h => by
    obtain ⟨h1, h2⟩ := okd_all (ds := ds) fun x hx => h x (List.mem_cons_of_mem _ hx)
    obtain ⟨h3, h4⟩ := h d List.mem_cons_self
    refine ⟨?_, ?_⟩
    · unfold PyData.canLayAll0; rw [h3, h1]; rfl
    · unfold PyData.depthAll; exact Nat.max_le.mpr ⟨h4, h2⟩
theorem okd_list {n : Nat} {ds : List PyData} (h : ∀ d ∈ ds, okd n d) : okd (n + 1) (.list ds) := by
  obtain ⟨h1, h2⟩ := okd_all h
  exact ⟨by unfold PyData.canLay0; exact h1, by unfold PyData.depth; omega⟩
theorem okd_tup {n : Nat} {ds : List PyData} (h : ∀ d ∈ ds, okd n d) : okd (n + 1) (.tuple ds) := by
  obtain ⟨h1, h2⟩ := okd_all h
  exact ⟨by unfold PyData.canLay0; exact h1, by unfold PyData.depth; omega⟩
theorem okd_int (i : Int) : okd 0 (.int i) := ⟨by unfold PyData.canLay0; rfl, by unfold PyData.depth; exact Nat.le_refl _⟩
theorem okd_non : okd 0 .none := ⟨by unfold PyData.canLay0; rfl, by unfold PyData.depth; exact Nat.le_refl _⟩
theorem okd_ints (ns : List Int) : okd 1 (dIs ns) := okd_list fun d hd => by
  obtain ⟨i, _, rfl⟩ := List.mem_map.mp hd
  exact okd_int i
theorem eqv_same {n : Nat} {d : PyData} (h : okd n d) : PyData.eqv d d = true := SeqAt.eqv_refl d h.1
theorem eqvAll_ints : ∀ (xs ys : List Int), PyData.eqvAll (xs.map .int) (ys.map .int) = decide (xs = ys)
  | [], [] => by simp [PyData.eqvAll]
  | [], _ :: _ => by simp [PyData.eqvAll]
  | _ :: _, [] => by simp [PyData.eqvAll]
  | x :: xs, y :: ys => by
    have ih := eqvAll_ints xs ys
    simp only [List.map_cons, PyData.eqvAll, PyData.eqv, ih]
    by_cases c : x = y
    · subst c; simp
    · simp [c]
theorem eqv_ints (xs ys : List Int) : PyData.eqv (dIs xs) (dIs ys) = decide (xs = ys) := by
  show PyData.eqv (.list _) (.list _) = _
  unfold PyData.eqv
  exact eqvAll_ints xs ys

def isI : PyData → Bool
  | .int _ => true
  | _ => false
/-! ### sums of lines -/
abbrev dLs (ls : List (List Int)) : PyData := .list (ls.map dIs)
abbrev tLl (ls : List (List Int)) : Ty := tD (dLs ls)
theorem okd_lls (ls : List (List Int)) : okd 2 (dLs ls) := okd_list fun d hd => by
  obtain ⟨l, _, rfl⟩ := List.mem_map.mp hd
  exact okd_ints l
def zipAdd (t l : List Int) (w : Int) : List Int := (t.zip l).map fun p => p.1 + w * p.2
def zeros : List Int := List.replicate 9 0
def summedL (lines : List (List Int)) (ws : List Int) : List Int := (lines.zip ws).foldl (fun t p => zipAdd t p.1 p.2) zeros
theorem foldl_take {α β : Type} (f : α → β → α) (a : α) {xs : List β} {i : Nat} {x : β} (h : xs[i]? = some x) : (xs.take (i + 1)).foldl f a = f ((xs.take i).foldl f a) x := by
  rw [List.take_add_one, h, List.foldl_append]
  rfl
theorem zip_map_line (ls : List (List Int)) (ws : List Int) : (ls.map dIs).zip (ws.map PyData.int) = (ls.zip ws).map fun p => (dIs p.1, PyData.int p.2) := by
  rw [List.zip_map]
  rfl
theorem zipAdd_len {t l : List Int} {w : Int} (ht : t.length = 9) (hl : l.length = 9) : (zipAdd t l w).length = 9 := by
  unfold zipAdd
  rw [List.length_map, List.length_zip, ht, hl]
  rfl
theorem foldl_len {zs : List (List Int × Int)} : ∀ {t : List Int}, t.length = 9 → (∀ p ∈ zs, p.1.length = 9) → (zs.foldl (fun t p => zipAdd t p.1 p.2) t).length = 9 := by
  induction zs with
  | nil => intro t h _; exact h
  | cons p zs ih =>
    intro t h hz
    exact ih (zipAdd_len h (hz p List.mem_cons_self)) fun q hq => hz q (List.mem_cons_of_mem _ hq)
theorem fold_le : ∀ {zs : List (List Int × Int)} {t : List Int}, (zs.foldl (fun t p => zipAdd t p.1 p.2) t).length ≤ t.length
  | [], _ => Nat.le_refl _
  | p :: zs, t => by
    refine Nat.le_trans (fold_le (zs := zs) (t := zipAdd t p.1 p.2)) ?_
    unfold zipAdd
    rw [List.length_map, List.length_zip]
    exact Nat.min_le_left _ _
theorem summed_len {lines : List (List Int)} {ws : List Int} (h : ∀ l ∈ lines, l.length = 9) : (summedL lines ws).length = 9 :=
  foldl_len (by simp [zeros]) fun p hp => h _ (List.of_mem_zip (a := p.1) (b := p.2) hp).1
def colsum (zs : List (List Int × Int)) (k : Nat) : Int := (zs.map fun p => p.1.getD k 0 * p.2).sum
theorem getD_of {α : Type} {xs : List α} {k : Nat} {x d : α} (h : xs[k]? = some x) : xs.getD k d = x := by rw [List.getD_eq_getElem?_getD, h]; rfl
theorem get_of_getD {xs : List Int} {k : Nat} (h : k < xs.length) : xs[k]? = some (xs.getD k 0) := by rw [List.getD_eq_getElem?_getD, List.getElem?_eq_getElem h]; rfl
theorem zipAdd_get {t l : List Int} {w : Int} {k : Nat} (h1 : k < t.length) (h2 : k < l.length) : (zipAdd t l w).getD k 0 = t.getD k 0 + w * l.getD k 0 := by
  refine getD_of ?_
  unfold zipAdd
  have e : (t.zip l)[k]? = some (t.getD k 0, l.getD k 0) := List.getElem?_zip_eq_some.mpr ⟨get_of_getD h1, get_of_getD h2⟩
  rw [List.getElem?_map, e]
  rfl
theorem fold_get {k : Nat} (hk : k < 9) : ∀ {zs : List (List Int × Int)} {t : List Int}, t.length = 9 → (∀ p ∈ zs, p.1.length = 9) → (zs.foldl (fun t p => zipAdd t p.1 p.2) t).getD k 0 = t.getD k 0 + colsum zs k
  | [], t, _, _ => by simp [colsum]
  | p :: zs, t, ht, hz => by
    have hp := hz p List.mem_cons_self
    have ih := fold_get hk (zs := zs) (t := zipAdd t p.1 p.2) (zipAdd_len ht hp) fun q hq => hz q (List.mem_cons_of_mem _ hq)
    rw [List.foldl_cons, ih, zipAdd_get (by omega) (by omega)]
    unfold colsum
    rw [List.map_cons, List.sum_cons, Int.mul_comm p.2]
    omega
theorem summed_get {lines : List (List Int)} {ws : List Int} {k : Nat} (hk : k < 9) (h : ∀ l ∈ lines, l.length = 9) : (summedL lines ws).getD k 0 = colsum (lines.zip ws) k := by
  unfold summedL
  rw [fold_get hk (by simp [zeros]) fun p hp => h _ (List.of_mem_zip (a := p.1) (b := p.2) hp).1]
  have : zeros.getD k 0 = 0 := by
    unfold zeros
    rw [List.getD_eq_getElem?_getD, List.getElem?_replicate]
    split <;> rfl
  rw [this]; omega
theorem line_ext {xs ys : List Int} (h1 : xs.length = 9) (h2 : ys.length = 9) (h : ∀ k : Nat, k < 9 → xs.getD k 0 = ys.getD k 0) : xs = ys := by
  refine List.ext_getElem? fun k => ?_
  by_cases hk : k < 9
  · rw [get_of_getD (by omega), get_of_getD (by omega), h k hk]
  · rw [List.getElem?_eq_none (by omega), List.getElem?_eq_none (by omega)]
theorem range_map_get {f : Nat → Int} {k n : Nat} (h : k < n) : ((List.range n).map f).getD k 0 = f k := getD_of (by rw [List.getElem?_map, List.getElem?_range h]; rfl)
theorem summed_cols {lines : List (List Int)} {ws : List Int} (h : ∀ l ∈ lines, l.length = 9) : (List.range 9).map (colsum (lines.zip ws)) = summedL lines ws :=
  line_ext (by simp) (summed_len h) fun k hk => by rw [range_map_get hk, summed_get hk h]
theorem colsum_succ {zs : List (List Int × Int)} {j k : Nat} {p : List Int × Int} (h : zs[j]? = some p) : colsum (zs.take (j + 1)) k = colsum (zs.take j) k + p.1.getD k 0 * p.2 := by
  unfold colsum
  rw [List.take_add_one, h, List.map_append]
  show (_ ++ [p.1.getD k 0 * p.2]).sum = _
  rw [sum_snoc]
theorem dot_zipAdd {w : Int} : ∀ {t l v : List Int}, t.length = l.length → dot (zipAdd t l w) v = dot t v + w * dot l v
  | [], [], _, _ => by simp [zipAdd, dot]
  | [], _ :: _, _, h => by simp at h
  | _ :: _, [], _, h => by simp at h
  | a :: t, b :: l, [], _ => by simp [zipAdd, dot]
  | a :: t, b :: l, v :: vs, h => by
    have ih := dot_zipAdd (w := w) (t := t) (l := l) (v := vs) (by simpa using h)
    show (a + w * b) * v + dot (zipAdd t l w) vs = a * v + dot t vs + w * (b * v + dot l vs)
    rw [ih, Int.add_mul, Int.mul_add, Int.mul_assoc]
    omega
def wsum (zs : List (List Int × Int)) (v : List Int) : Int := (zs.map fun p => p.2 * dot p.1 v).sum
theorem dot_fold {v : List Int} : ∀ {zs : List (List Int × Int)} {t : List Int}, t.length = 9 → (∀ p ∈ zs, p.1.length = 9) → dot (zs.foldl (fun t p => zipAdd t p.1 p.2) t) v = dot t v + wsum zs v
  | [], t, _, _ => by simp [wsum]
  | p :: zs, t, ht, hz => by
    have hp := hz p List.mem_cons_self
    have ih := dot_fold (v := v) (zs := zs) (t := zipAdd t p.1 p.2) (zipAdd_len ht hp) fun q hq => hz q (List.mem_cons_of_mem _ hq)
    rw [List.foldl_cons, ih, dot_zipAdd (by omega)]
    unfold wsum
    rw [List.map_cons, List.sum_cons]
    omega
theorem dot_zeros (n : Nat) : ∀ v : List Int, dot (List.replicate n 0) v = 0 := by
  induction n with
  | zero => intro v; rfl
  | succ n ih =>
    intro v
    cases v with
    | nil => rfl
    | cons x v => rw [List.replicate_succ]; show 0 * x + dot (List.replicate n 0) v = 0; rw [ih v]; omega
theorem dot_summed {lines : List (List Int)} {ws v : List Int} (h : ∀ l ∈ lines, l.length = 9) : dot (summedL lines ws) v = wsum (lines.zip ws) v := by
  unfold summedL
  rw [dot_fold (by simp [zeros]) fun p hp => h _ (List.of_mem_zip (a := p.1) (b := p.2) hp).1]
  unfold zeros
  rw [dot_zeros]
  omega
theorem wl_dot {line nums : List Int} (h : line ≠ []) : wl line nums = dot line (1 :: nums) := by
  cases line with
  | nil => exact absurd rfl h
  | cons a r => show a + dot r nums = a * 1 + dot r nums; omega
def steadyL (n : Int) : List Int := n :: List.replicate 8 0
theorem steady_len (n : Int) : (steadyL n).length = 9 := by simp [steadyL]
def turnedL (line : List Int) (eight : List (List Int)) : List Int := summedL (steadyL (line.headD 0) :: eight) (1 :: line.tail)
theorem turned_len {line : List Int} {eight : List (List Int)} (h : ∀ l ∈ eight, l.length = 9) : (turnedL line eight).length = 9 :=
  summed_len fun l hl => by
    rcases List.mem_cons.mp hl with e | hl
    · rw [e]; exact steady_len _
    · exact h l hl
theorem wsum_zip {v : List Int} : ∀ {eight : List (List Int)} {tl : List Int}, wsum (eight.zip tl) v = dot tl (eight.map fun l => dot l v)
  | [], tl => by cases tl <;> rfl
  | _ :: _, [] => rfl
  | l :: eight, w :: tl => by
    have ih := wsum_zip (v := v) (eight := eight) (tl := tl)
    show ((w * dot l v) :: ((eight.zip tl).map fun p => p.2 * dot p.1 v)).sum = w * dot l v + dot tl (eight.map fun l => dot l v)
    rw [List.sum_cons, ← ih]
    rfl
/-- the worth of a turned line -/
theorem wl_turned {line nums : List Int} {eight : List (List Int)} (h : ∀ l ∈ eight, l.length = 9) : wl (turnedL line eight) nums = wl line (eight.map fun l => wl l nums) := by
  have hl : ∀ l ∈ steadyL (line.headD 0) :: eight, l.length = 9 := fun l hl => by
    rcases List.mem_cons.mp hl with e | hl
    · rw [e]; exact steady_len _
    · exact h l hl
  have hne : turnedL line eight ≠ [] := fun e => by
    have := turned_len (line := line) h
    rw [e] at this; cases this
  rw [wl_dot hne]
  unfold turnedL
  rw [dot_summed hl, List.zip_cons_cons]
  show (1 * dot (steadyL (line.headD 0)) (1 :: nums)) + wsum (eight.zip line.tail) (1 :: nums) = line.headD 0 + dot line.tail (eight.map fun l => wl l nums)
  rw [wsum_zip]
  have e1 : dot (steadyL (line.headD 0)) (1 :: nums) = line.headD 0 := by
    show line.headD 0 * 1 + dot (List.replicate 8 0) nums = _
    rw [dot_zeros]; omega
  have e2 : (eight.map fun l => dot l (1 :: nums)) = eight.map fun l => wl l nums := List.map_congr_left fun l hl => (wl_dot fun e => by have := h l hl; rw [e] at this; cases this).symm
  rw [e1, e2]
  omega
theorem turned_get {line : List Int} {eight : List (List Int)} {k : Nat} (hk : k < 9) (h : ∀ l ∈ eight, l.length = 9) : (turnedL line eight).getD k 0 = (steadyL (line.headD 0)).getD k 0 + colsum (eight.zip line.tail) k := by
  unfold turnedL
  rw [summed_get hk fun l hl => by
    rcases List.mem_cons.mp hl with e | hl
    · rw [e]; exact steady_len _
    · exact h l hl]
  show ((steadyL (line.headD 0)).getD k 0 * 1 :: ((eight.zip line.tail).map fun p => p.1.getD k 0 * p.2)).sum = _
  rw [List.sum_cons]
  unfold colsum
  omega
def bareL (i : Int) : List Int := (List.range 9).map fun k : Nat => if (k : Int) = i + 1 then 1 else 0
theorem bare_eq : ∀ j : Nat, j < 8 → (bareL (j : Int)).map PyData.int = List.replicate ((j : Int) + 1).toNat (.int 0) ++ [.int 1] ++ List.replicate (7 - (j : Int)).toNat (.int 0)
  | 0, _ => rfl | 1, _ => rfl | 2, _ => rfl | 3, _ => rfl | 4, _ => rfl | 5, _ => rfl | 6, _ => rfl | 7, _ => rfl
  | j + 8, h => absurd h (by omega)
theorem bare_len (i : Int) : (bareL i).length = 9 := by simp [bareL]
def isLine : PyData → Bool
  | .list ds => decide (ds.length = 9) && (ds.map isI).all id
  | _ => false
theorem isLine_ints {l : List Int} (h : l.length = 9) : isLine (dIs l) = true := by
  show (decide ((l.map PyData.int).length = 9) && ((l.map PyData.int).map isI).all id) = true
  rw [List.length_map, h]
  simp [isI]

/-! ### promises of small defs, and their calls -/
section
abbrev sp_worth : Sp := spP (fun a : List Int × List Int => [tIs a.1, tIs a.2]) (fun a => a.1 ≠ [] ∧ (Sm a.1.tail ∨ Sm a.2)) (fun a => tI (wl a.1 a.2))
abbrev sp_holds : Sp := spP (fun a : List Int × List Int => [tIs a.1, tIs a.2]) (fun a => a.1 ≠ [] ∧ (Sm a.1.tail ∨ Sm a.2)) (fun a => tBo (decide (0 ≤ wl a.1 a.2)))
abbrev sp_law_cell_at (K : PySem.W.Frag) : Sp := spP (fun a : List Int × Int => [tScr K a.1, tI a.2]) (fun a => 0 ≤ a.2) (fun a => tI (cellAt a.1 a.2))
abbrev sp_law_mix : Sp := spP (fun a : Int × Int × Int => [tI a.1, tI a.2.1, tI a.2.2]) (fun a => 0 < a.2.2) (fun a => tI (mix a.1 a.2.1 a.2.2))
abbrev sp_law_number : Sp := spP (fun a : Int × Int => [tI a.1, tI a.2]) (fun _ => True) (fun a => tI (num a.1 a.2))
abbrev sp_law_whole : Sp := spP (fun d : PyData => [tD d]) (fun _ => True) (fun d => tBo (isI d))
abbrev sp_bare : Sp := spO (fun i : Int => [tI i]) (fun _ => True) (fun i => (bareL i).map .int)
abbrev sp_summed : Sp := spO (fun a : List (List Int) × List Int => [tLl a.1, tIs a.2]) (fun a => Sm a.2 ∨ ∀ l ∈ a.1, Sm l) (fun a => (summedL a.1 a.2).map .int)
abbrev sp_steady : Sp := spO (fun n : Int => [tI n]) (fun _ => True) (fun n => (steadyL n).map .int)
abbrev sp_turned : Sp := spO (fun a : List Int × List (List Int) => [tIs a.1, tLl a.2]) (fun a => a.1.length = 9 ∧ Sm a.1.tail ∧ a.2.length ≤ 1000) (fun a => (turnedL a.1 a.2).map .int)
abbrev sp_law_is_line : Sp := spP (fun d : PyData => [tD d]) (fun _ => True) (fun d => tBo (isLine d))
abbrev sp_law_worth : Sp := spP (fun a : List Int × List Int => [tIs a.1, tIs a.2]) (fun a => a.1.length = 9 ∧ a.2.length = 8 ∧ (Sm a.1.tail ∨ Sm a.2)) (fun a => tI (wl a.1 a.2))
end
section
variable {m : Bool} {Γ : List Sl} {C : List Cell} {E : XK} {t1 t2 t3 t4 : TE} {line nums ns : List Int} {c k n : Int} {d : PyData}
theorem E_worth (h1 : SE true t1 Γ C (tIs line)) (h2 : SE true t2 Γ C (tIs nums)) (h : line ≠ [] ∧ (Sm line.tail ∨ Sm nums)) : SE true (tCall sp_worth [] E (tCons t1 (tCons t2 tNil))) Γ C (tI (wl line nums)) := e_call (line, nums) (a_cons h1 (a_cons h2 a_nil)) rfl h
theorem V_worth (h1 : SE false t1 Γ C (tIs line)) (h2 : SE false t2 Γ C (tIs nums)) (h : line ≠ [] ∧ (Sm line.tail ∨ Sm nums)) : SE m (tCall sp_worth [] E (tCons t1 (tCons t2 tNil))) Γ C (tI (wl line nums)) := e_callA (line, nums) (a_cons h1 (a_cons h2 a_nil)) rfl h atom_int
theorem E_holds (h1 : SE true t1 Γ C (tIs line)) (h2 : SE true t2 Γ C (tIs nums)) (h : line ≠ [] ∧ (Sm line.tail ∨ Sm nums)) : SE true (tCall sp_holds [] E (tCons t1 (tCons t2 tNil))) Γ C (tBo (decide (0 ≤ wl line nums))) := e_call (line, nums) (a_cons h1 (a_cons h2 a_nil)) rfl h
theorem E_law_cell_at {K : PySem.W.Frag} (h1 : SE true t1 Γ C (tScr K ns)) (h2 : SE true t2 Γ C (tI k)) (h : 0 ≤ k) : SE true (tCall (sp_law_cell_at K) [] E (tCons t1 (tCons t2 tNil))) Γ C (tI (cellAt ns k)) := e_call (ns, k) (a_cons h1 (a_cons h2 a_nil)) rfl h
theorem E_law_mix (h1 : SE true t1 Γ C (tI c)) (h2 : SE true t2 Γ C (tI k)) (h3 : SE true t3 Γ C (tI n)) (h : 0 < n) : SE true (tCall sp_law_mix [] E (tCons t1 (tCons t2 (tCons t3 tNil)))) Γ C (tI (mix c k n)) := e_call (c, k, n) (a_cons h1 (a_cons h2 (a_cons h3 a_nil))) rfl h
theorem E_law_number (h1 : SE true t1 Γ C (tI c)) (h2 : SE true t2 Γ C (tI k)) (_ : True) : SE true (tCall sp_law_number [] E (tCons t1 (tCons t2 tNil))) Γ C (tI (num c k)) := e_call (c, k) (a_cons h1 (a_cons h2 a_nil)) rfl trivial
theorem E_law_whole (h1 : SE true t1 Γ C (tD d)) (_ : True) : SE true (tCall sp_law_whole [] E (tCons t1 tNil)) Γ C (tBo (isI d)) := e_call d (a_cons h1 a_nil) rfl trivial
theorem O_bare (h1 : SE true t1 Γ C (tI c)) : SO (tCall sp_bare [] E (tCons t1 tNil)) Γ C ((bareL c).map .int) := o_call c (a_cons h1 a_nil) rfl trivial
theorem O_summed {lines : List (List Int)} {ws : List Int} (h1 : SE true t1 Γ C (tLl lines)) (h2 : SE true t2 Γ C (tIs ws)) (h : Sm ws ∨ ∀ l ∈ lines, Sm l) : SO (tCall sp_summed [] E (tCons t1 (tCons t2 tNil))) Γ C ((summedL lines ws).map .int) := o_call (lines, ws) (a_cons h1 (a_cons h2 a_nil)) rfl h
theorem O_steady (h1 : SE true t1 Γ C (tI c)) : SO (tCall sp_steady [] E (tCons t1 tNil)) Γ C ((steadyL c).map .int) := o_call c (a_cons h1 a_nil) rfl trivial
theorem O_turned {lines : List (List Int)} (h1 : SE true t1 Γ C (tIs line)) (h2 : SE true t2 Γ C (tLl lines)) (h : line.length = 9 ∧ Sm line.tail ∧ lines.length ≤ 1000) : SO (tCall sp_turned [] E (tCons t1 (tCons t2 tNil))) Γ C ((turnedL line lines).map .int) := o_call (line, lines) (a_cons h1 (a_cons h2 a_nil)) rfl h
theorem E_law_is_line (h1 : SE true t1 Γ C (tD d)) (_ : True) : SE true (tCall sp_law_is_line [] E (tCons t1 tNil)) Γ C (tBo (isLine d)) := e_call d (a_cons h1 a_nil) rfl trivial
theorem V_law_is_line (h1 : SE false t1 Γ C (tD d)) : SE m (tCall sp_law_is_line [] E (tCons t1 tNil)) Γ C (tBo (isLine d)) := e_callA d (a_cons h1 a_nil) rfl trivial atom_bl
theorem E_law_worth (h1 : SE true t1 Γ C (tIs line)) (h2 : SE true t2 Γ C (tIs nums)) (h : line.length = 9 ∧ nums.length = 8 ∧ (Sm line.tail ∨ Sm nums)) : SE true (tCall sp_law_worth [] E (tCons t1 (tCons t2 tNil))) Γ C (tI (wl line nums)) := e_call (line, nums) (a_cons h1 (a_cons h2 a_nil)) rfl h
theorem V_law_worth (h1 : SE false t1 Γ C (tIs line)) (h2 : SE false t2 Γ C (tIs nums)) (h : line.length = 9 ∧ nums.length = 8 ∧ (Sm line.tail ∨ Sm nums)) : SE m (tCall sp_law_worth [] E (tCons t1 (tCons t2 tNil))) Γ C (tI (wl line nums)) := e_callA (line, nums) (a_cons h1 (a_cons h2 a_nil)) rfl h atom_int
end
end Sw
/-! duties and rows -/
namespace Sw
open PySem L2
theorem ixN_of {n : Nat} {i : Int} (h0 : 0 ≤ i) (h1 : i < n) : ixN n i = some i.toNat := by
  unfold ixN
  rw [if_pos h0, if_pos h1]
theorem getD_head (xs : List Int) : xs.getD (Int.toNat 0) 0 = xs.headD 0 := by cases xs <;> rfl
theorem cutD_take (xs : List PyData) (k : Nat) : cutD xs none (some (k : Int)) = xs.take k := by
  unfold cutD
  rw [HT.sIx_none, HT.sIx_nat, List.drop_zero, Nat.sub_zero, ← List.take_take, List.take_length]
/-- rest, by a law's own hand -/
def restL (g : List Int) (ks : List (List Int)) (wh : Int) (ws : List Int) : List Int := (ks.zip ws).foldl (fun t p => zipAdd t p.1 (-p.2)) (g.map fun x => wh * x)
theorem zipAdd_zeros {g : List Int} (wh : Int) (h : g.length = 9) : zipAdd zeros g wh = g.map fun x => wh * x := by
  refine List.ext_getElem? fun k => ?_
  by_cases hk : k < 9
  · have e : (zeros.zip g)[k]? = some (0, g.getD k 0) := List.getElem?_zip_eq_some.mpr ⟨by
      unfold zeros
      rw [List.getElem?_replicate, if_pos hk], get_of_getD (by omega)⟩
    unfold zipAdd
    rw [List.getElem?_map, e, List.getElem?_map, get_of_getD (by omega)]
    show some (0 + wh * g.getD k 0) = some (wh * g.getD k 0)
    rw [Int.zero_add]
  · rw [List.getElem?_eq_none (by rw [zipAdd_len (by simp [zeros]) h]; omega), List.getElem?_eq_none (by rw [List.length_map]; omega)]
theorem summed_rest {g : List Int} {ks : List (List Int)} {wh : Int} {ws : List Int} (h : g.length = 9) : summedL (g :: ks) (wh :: ws.map fun w => -w) = restL g ks wh ws := by
  unfold summedL restL
  rw [List.zip_cons_cons, List.foldl_cons, zipAdd_zeros wh h, List.zip_map_right, List.foldl_map]
  rfl
theorem rest_len {g : List Int} {ks : List (List Int)} {wh : Int} {ws : List Int} (h : g.length = 9) (hk : ∀ k ∈ ks, k.length = 9) : (restL g ks wh ws).length = 9 := by
  rw [← summed_rest h]
  refine summed_len fun l hl => ?_
  rcases List.mem_cons.mp hl with e | hl
  · rw [e]; exact h
  · exact hk l hl
/-- a row that is out of form -/
def badRow (ks : List (List Int)) (wh : Int) (ws : List Int) : Bool := decide (wh < 1) || (!decide ((ws.length : Int) = (ks.length : Int)) || (ws.map fun w => decide (w < 0)).any id)
def goodRest (r : List Int) (wh : Int) : Bool := (r.tail.map fun f => decide (f = 0)).all id && decide (-wh < r.headD 0)
def showsB (g : List Int) (ks : List (List Int)) (wh : Int) (ws : List Int) : Bool := if badRow ks wh ws = true then false else goodRest (restL g ks wh ws) wh
theorem all_zero : ∀ (n : Nat) {xs : List Int}, xs.length = n → (xs.map fun f => decide (f = 0)).all id = decide (xs = List.replicate n 0)
  | 0, [], _ => by simp
  | n + 1, x :: xs, h => by
    have ih := all_zero n (xs := xs) (by simpa using h)
    rw [List.map_cons, List.all_cons, ih, List.replicate_succ]
    by_cases c : x = 0
    · subst c; simp
    · simp [c]
  | 0, _ :: _, h => by simp at h
  | _ + 1, [], h => by simp at h
abbrev dDuty (g : List Int) (ks : List (List Int)) : PyData := .tuple [dIs g, dLs ks]
abbrev dRow (wh : Int) (ws : List Int) : PyData := .tuple [.int wh, dIs ws]
theorem okd_duty (g : List Int) (ks : List (List Int)) : okd 3 (dDuty g ks) := okd_tup fun d hd => by
  rcases List.mem_cons.mp hd with e | hd
  · subst e; exact (okd_ints g).mono (by decide)
  · rw [List.mem_singleton.mp hd]; exact okd_lls ks
theorem okd_row (wh : Int) (ws : List Int) : okd 2 (dRow wh ws) := okd_tup fun d hd => by
  rcases List.mem_cons.mp hd with e | hd
  · subst e; exact (okd_int wh).mono (by decide)
  · rw [List.mem_singleton.mp hd]; exact okd_ints ws
structure DutyOk (g : List Int) (ks : List (List Int)) : Prop where
  g9 : g.length = 9
  k9 : ∀ k ∈ ks, k.length = 9
  few : ks.length ≤ 1000
abbrev sp_shows : Sp := spP (fun a : (List Int × List (List Int)) × (Int × List Int) => [tD (dDuty a.1.1 a.1.2), tD (dRow a.2.1 a.2.2)]) (fun a => DutyOk a.1.1 a.1.2 ∧ Sm (a.2.1 :: a.2.2) ∧ a.2.2.length ≤ 1000) (fun a => tBo (showsB a.1.1 a.1.2 a.2.1 a.2.2))
/-- a line with noughts at some places -/
def lby (c : Int) (zero : List Int) (i : Nat) : List Int := (List.range 9).map fun j : Nat => if 1 ≤ j ∧ j ≤ i ∧ ((j : Int) - 1 ∈ zero ∨ mix c (60 + ((j : Int) - 1)) 3 = 0) then 0 else num c (5 * (j : Int))
abbrev lineBy (c : Int) (zero : List Int) : List Int := lby c zero 8
theorem lby_len (c : Int) (zero : List Int) (i : Nat) : (lby c zero i).length = 9 := by simp [lby]
theorem lby_get {c : Int} {zero : List Int} {i j : Nat} (h : j < 9) : (lby c zero i)[j]? = some (if 1 ≤ j ∧ j ≤ i ∧ ((j : Int) - 1 ∈ zero ∨ mix c (60 + ((j : Int) - 1)) 3 = 0) then 0 else num c (5 * (j : Int))) := by
  unfold lby
  rw [List.getElem?_map, List.getElem?_range h]
  rfl
theorem lby_bd {c : Int} {zero : List Int} {i : Nat} : ∀ x ∈ lby c zero i, -1000000000 ≤ x ∧ x ≤ 1000000000 := fun x hx => by
  unfold lby at hx
  obtain ⟨j, _, rfl⟩ := List.mem_map.mp hx
  have := num_bd c (5 * (j : Int))
  split <;> omega
theorem lby_set {c : Int} {zero : List Int} {i : Nat} (hi : i < 8) (h : (i : Int) ∈ zero ∨ mix c (60 + (i : Int)) 3 = 0) : (lby c zero i).set (i + 1) 0 = lby c zero (i + 1) := by
  refine List.ext_getElem? fun j => ?_
  by_cases hj : j < 9
  · by_cases e : i + 1 = j
    · subst e
      rw [List.getElem?_set_self (by rw [lby_len]; omega), lby_get hj, if_pos ⟨by omega, by omega, by rw [show ((i + 1 : Nat) : Int) - 1 = (i : Int) by omega]; exact h⟩]
    · rw [List.getElem?_set_ne e, lby_get hj, lby_get hj]
      by_cases c1 : 1 ≤ j ∧ j ≤ i ∧ ((j : Int) - 1 ∈ zero ∨ mix c (60 + ((j : Int) - 1)) 3 = 0)
      · rw [if_pos c1, if_pos ⟨c1.1, by omega, c1.2.2⟩]
      · rw [if_neg c1, if_neg fun q => c1 ⟨q.1, by omega, q.2.2⟩]
  · rw [List.getElem?_eq_none (by rw [List.length_set, lby_len]; omega), List.getElem?_eq_none (by rw [lby_len]; omega)]
theorem lby_keep {c : Int} {zero : List Int} {i : Nat} (hi : i < 8) (h : ¬ ((i : Int) ∈ zero ∨ mix c (60 + (i : Int)) 3 = 0)) : lby c zero i = lby c zero (i + 1) := by
  refine List.ext_getElem? fun j => ?_
  by_cases hj : j < 9
  · rw [lby_get hj, lby_get hj]
    by_cases c1 : 1 ≤ j ∧ j ≤ i ∧ ((j : Int) - 1 ∈ zero ∨ mix c (60 + ((j : Int) - 1)) 3 = 0)
    · rw [if_pos c1, if_pos ⟨c1.1, by omega, c1.2.2⟩]
    · rw [if_neg c1, if_neg fun q => ?_]
      by_cases e : j = i + 1
      · subst e
        exact h (by have := q.2.2; rwa [show ((i + 1 : Nat) : Int) - 1 = (i : Int) by omega] at this)
      · exact c1 ⟨q.1, by omega, q.2.2⟩
  · rw [List.getElem?_eq_none (by rw [lby_len]; omega), List.getElem?_eq_none (by rw [lby_len]; omega)]
theorem lby_0 (c : Int) (zero : List Int) : (List.range 9).map (fun k : Nat => num c (5 * (k : Int))) = lby c zero 0 := by
  unfold lby
  refine List.map_congr_left fun j _ => ?_
  rw [if_neg fun q => by omega]
abbrev sp_law_line_by : Sp := spO (fun a : Int × List Int => [tI a.1, tIs a.2]) (fun _ => True) (fun a => (lineBy a.1 a.2).map .int)
abbrev sp_law_rest : Sp := spO (fun a : (List Int × List (List Int)) × (Int × List Int) => [tIs a.1.1, tLl a.1.2, tI a.2.1, tIs a.2.2]) (fun a => Sm (a.2.1 :: a.2.2) ∧ a.1.1.length ≤ 1000) (fun a => (restL a.1.1 a.1.2 a.2.1 a.2.2).map .int)
section
variable {m : Bool} {Γ : List Sl} {C : List Cell} {E : XK} {t1 t2 t3 t4 : TE} {g ws zero : List Int} {ks : List (List Int)} {c wh : Int}
theorem E_shows (h1 : SE true t1 Γ C (tD (dDuty g ks))) (h2 : SE true t2 Γ C (tD (dRow wh ws))) (h : DutyOk g ks ∧ Sm (wh :: ws) ∧ ws.length ≤ 1000) : SE true (tCall sp_shows [] E (tCons t1 (tCons t2 tNil))) Γ C (tBo (showsB g ks wh ws)) := e_call ((g, ks), (wh, ws)) (a_cons h1 (a_cons h2 a_nil)) rfl h
theorem O_law_line_by (h1 : SE true t1 Γ C (tI c)) (h2 : SE true t2 Γ C (tIs zero)) : SO (tCall sp_law_line_by [] E (tCons t1 (tCons t2 tNil))) Γ C ((lineBy c zero).map .int) := o_call (c, zero) (a_cons h1 (a_cons h2 a_nil)) rfl trivial
theorem O_law_rest (h1 : SE true t1 Γ C (tIs g)) (h2 : SE true t2 Γ C (tLl ks)) (h3 : SE true t3 Γ C (tI wh)) (h4 : SE true t4 Γ C (tIs ws)) (h : Sm (wh :: ws) ∧ g.length ≤ 1000) : SO (tCall sp_law_rest [] E (tCons t1 (tCons t2 (tCons t3 (tCons t4 tNil))))) Γ C ((restL g ks wh ws).map .int) := o_call ((g, ks), (wh, ws)) (a_cons h1 (a_cons h2 (a_cons h3 (a_cons h4 a_nil)))) rfl h
end
end Sw
/-! what is shown holds -/
namespace Sw
open PySem L2
theorem headD_dot {r nums : List Int} (h : ∀ x ∈ r.tail, x = 0) : wl r nums = r.headD 0 := by
  cases r with
  | nil => simp [wl, dot]
  | cons a t =>
    show a + dot t nums = a
    have : ∀ {t v : List Int}, (∀ x ∈ t, x = 0) → dot t v = 0 := by
      intro t
      induction t with
      | nil => intro v _; cases v <;> rfl
      | cons x t ih =>
        intro v h
        cases v with
        | nil => rfl
        | cons y v =>
          show x * y + dot t v = 0
          rw [h x List.mem_cons_self, ih fun z hz => h z (List.mem_cons_of_mem _ hz)]
          omega
    rw [this (show ∀ x ∈ t, x = 0 from h)]
    omega
theorem wsum_neg {v : List Int} : ∀ {ks : List (List Int)} {ws : List Int}, (∀ k ∈ ks, 0 ≤ dot k v) → (∀ w ∈ ws, 0 ≤ w) → wsum (ks.zip (ws.map fun w => -w)) v ≤ 0
  | [], ws, _, _ => by cases ws <;> simp [wsum]
  | _ :: _, [], _, _ => by simp [wsum]
  | k :: ks, w :: ws, hk, hw => by
    have ih := wsum_neg (v := v) (ks := ks) (ws := ws) (fun x hx => hk x (List.mem_cons_of_mem _ hx)) fun x hx => hw x (List.mem_cons_of_mem _ hx)
    show ((-w * dot k v) :: ((ks.zip (ws.map fun w => -w)).map fun p => p.2 * dot p.1 v)).sum ≤ 0
    rw [List.sum_cons]
    have h1 : 0 ≤ w * dot k v := Int.mul_nonneg (hw w List.mem_cons_self) (hk k List.mem_cons_self)
    have h2 : -w * dot k v = -(w * dot k v) := Int.neg_mul _ _
    unfold wsum at ih
    omega
theorem bad_no {ks : List (List Int)} {wh : Int} {ws : List Int} (h : badRow ks wh ws = false) : 1 ≤ wh ∧ ws.length = ks.length ∧ ∀ w ∈ ws, 0 ≤ w := by
  unfold badRow at h
  simp only [Bool.or_eq_false_iff, decide_eq_false_iff_not, Bool.not_eq_false', decide_eq_true_eq] at h
  obtain ⟨h1, h2, h3⟩ := h
  refine ⟨by omega, by omega, fun w hw => ?_⟩
  have := List.any_eq_false.mp h3 (decide (w < 0)) (List.mem_map.mpr ⟨w, hw, rfl⟩)
  simp at this
  exact this
theorem bad_not {ks : List (List Int)} {wh : Int} {ws : List Int} (h1 : 1 ≤ wh) (h2 : ws.length = ks.length) (h3 : ∀ w ∈ ws, 0 ≤ w) : badRow ks wh ws = false := by
  unfold badRow
  simp only [Bool.or_eq_false_iff, decide_eq_false_iff_not, Bool.not_eq_false', decide_eq_true_eq]
  refine ⟨by omega, by omega, List.any_eq_false.mpr fun b hb => ?_⟩
  obtain ⟨w, hw, rfl⟩ := List.mem_map.mp hb
  have := h3 w hw
  simp
  exact this
theorem good_iff {r : List Int} {wh : Int} : goodRest r wh = true ↔ (∀ x ∈ r.tail, x = 0) ∧ -wh < r.headD 0 := by
  unfold goodRest
  rw [Bool.and_eq_true, decide_eq_true_eq, List.all_map, List.all_eq_true]
  simp
/-- SOUND: where a row shows a duty and all hypotheses hold, the goal holds -/
theorem shows_sound {g : List Int} {ks : List (List Int)} {wh : Int} {ws nums : List Int} (ok : DutyOk g ks) (h : showsB g ks wh ws = true) (hk : ∀ k ∈ ks, 0 ≤ wl k nums) : 0 ≤ wl g nums := by
  unfold showsB at h
  split at h
  · cases h
  · rename_i hb
    obtain ⟨h1, h2, h3⟩ := bad_no (by simpa using hb)
    obtain ⟨h4, h5⟩ := good_iff.mp h
    have e1 : wl (restL g ks wh ws) nums = (restL g ks wh ws).headD 0 := headD_dot h4
    have r9 := rest_len (wh := wh) (ws := ws) ok.g9 ok.k9
    have e2 : wl (restL g ks wh ws) nums = wh * wl g nums + wsum (ks.zip (ws.map fun w => -w)) (1 :: nums) := by
      have hne1 : restL g ks wh ws ≠ [] := fun e => by rw [e] at r9; cases r9
      have hne2 : g ≠ [] := fun e => by have := ok.g9; rw [e] at this; cases this
      have hl : ∀ l ∈ g :: ks, l.length = 9 := by
        intro l hl
        cases hl with
        | head => exact ok.g9
        | tail _ hl => exact ok.k9 l hl
      rw [wl_dot hne1, ← summed_rest ok.g9, dot_summed hl, wl_dot hne2]
      show ((wh * dot g (1 :: nums)) :: ((ks.zip (ws.map fun w => -w)).map fun p => p.2 * dot p.1 (1 :: nums))).sum = _
      rw [List.sum_cons]
      rfl
    have e0 : ∀ k ∈ ks, 0 ≤ dot k (1 :: nums) := fun k hk' => by
      have hne : k ≠ [] := fun e => by
        have := ok.k9 k hk'
        rw [e] at this; cases this
      rw [← wl_dot hne]
      exact hk k hk'
    have e3 : wsum (ks.zip (ws.map fun w => -w)) (1 :: nums) ≤ 0 := wsum_neg e0 h3
    have e4 : -wh < wh * wl g nums := by omega
    apply Int.not_lt.mp
    intro hn
    have : wh * wl g nums ≤ wh * (-1) := Int.mul_le_mul_of_nonneg_left (by omega) (by omega)
    omega
theorem set_last {α : Type} {xs : List α} {m : Nat} {y : α} (h : xs.length = m + 1) : xs.set m y = xs.take m ++ [y] := by
  refine List.ext_getElem? fun k => ?_
  by_cases hk : k < m
  · rw [List.getElem?_set_ne (by omega), List.getElem?_append_left (by rw [List.length_take]; omega), List.getElem?_take, if_pos hk]
  · by_cases e : k = m
    · subst e
      rw [List.getElem?_set_self (by omega), List.getElem?_append_right (by rw [List.length_take]; omega), List.length_take]
      rw [show k - min k xs.length = 0 by omega]
      rfl
    · rw [List.getElem?_eq_none (by rw [List.length_set]; omega), List.getElem?_eq_none (by rw [List.length_append, List.length_take]; simp; omega)]
/-- the made row -/
theorem rest_made {g last last' : List Int} {ks : List (List Int)} {wh more : Int} {ws : List Int} {m : Nat} (hk : ks.length = m + 1) (hw : ws.length = m + 1) (hl : last = restL g (ks.take m) wh (ws.take m)) (l9 : last.length = 9)
    (hl' : last' = last.set 0 (last.getD 0 0 - more)) : restL g (ks.set m last') wh (ws.set m 1) = more :: List.replicate 8 0 := by
  have l9' : last'.length = 9 := by rw [hl', List.length_set, l9]
  have e : restL g (ks.set m last') wh (ws.set m 1) = zipAdd last last' (-1) := by
    unfold restL at hl ⊢
    rw [set_last hk, set_last hw, List.zip_append (by rw [List.length_take, List.length_take]; omega), List.foldl_append, ← hl]
    rfl
  rw [e]
  refine line_ext (zipAdd_len l9 l9') (by simp) fun k hk => ?_
  rw [zipAdd_get (by omega) (by omega)]
  cases k with
  | zero =>
    rw [hl', getD_of (List.getElem?_set_self (by omega))]
    show last.getD 0 0 + -1 * (last.getD 0 0 - more) = more
    omega
  | succ k =>
    have e1 : last'.getD (k + 1) 0 = last.getD (k + 1) 0 := by
      rw [hl', List.getD_eq_getElem?_getD, List.getElem?_set_ne (by omega), ← List.getD_eq_getElem?_getD]
    rw [e1]
    show _ = (List.replicate 8 (0 : Int)).getD k 0
    have e8 : (List.replicate 8 (0 : Int)).getD k 0 = 0 := by
      rw [List.getD_eq_getElem?_getD, List.getElem?_replicate]
      split <;> rfl
    rw [e8]
    omega
theorem good_made (more wh : Int) : goodRest (more :: List.replicate 8 0) wh = decide (-wh < more) := by
  unfold goodRest
  rw [List.tail_cons, all_zero 8 (by simp)]
  simp
end Sw
/-! the clerk's rows -/
namespace Sw
open PySem L2
def bitsL (n m : Nat) : List Int := (List.range m).map fun k => ((n / 2 ^ k % 2 : Nat) : Int)
theorem bits_len (n m : Nat) : (bitsL n m).length = m := by simp [bitsL]
theorem bits_lo {n m : Nat} : ∀ x ∈ bitsL n m, 0 ≤ x ∧ x ≤ 1 := fun x hx => by
  obtain ⟨k, _, rfl⟩ := List.mem_map.mp hx
  have := Nat.mod_lt (n / 2 ^ k) (show 0 < 2 by decide)
  omega
theorem bits_succ (n m : Nat) : bitsL n (m + 1) = bitsL n m ++ [((n / 2 ^ m % 2 : Nat) : Int)] := by
  unfold bitsL
  rw [List.range_succ, List.map_append]
  rfl
theorem bits_add (n m : Nat) : bitsL (2 ^ m + n) m = bitsL n m := by
  unfold bitsL
  refine List.map_congr_left fun k hk => ?_
  have hk := List.mem_range.mp hk
  obtain ⟨d, rfl⟩ : ∃ d, m = k + 1 + d := ⟨m - (k + 1), by omega⟩
  have e : (2 ^ (k + 1 + d) + n) / 2 ^ k = 2 * 2 ^ d + n / 2 ^ k := by
    have e1 : 2 ^ (k + 1 + d) = 2 ^ k * (2 * 2 ^ d) := by rw [Nat.pow_add, Nat.pow_succ, Nat.mul_assoc]
    rw [e1, Nat.mul_add_div (Nat.pow_pos (by decide))]
  rw [e]
  congr 1
  omega
def rowsL : Nat → List (List Int)
  | 0 => [[]]
  | m + 1 => (rowsL m).map (fun r => r ++ [0]) ++ (rowsL m).map (fun r => r ++ [1])
theorem rows_bits : ∀ m : Nat, rowsL m = (List.range (2 ^ m)).map fun n => bitsL n m
  | 0 => rfl
  | m + 1 => by
    unfold rowsL
    rw [rows_bits m, List.map_map, List.map_map, show 2 ^ (m + 1) = 2 ^ m + 2 ^ m by rw [Nat.pow_succ]; omega, List.range_add, List.map_append, List.map_map]
    congr 1
    · refine List.map_congr_left fun n hn => ?_
      have hn := List.mem_range.mp hn
      show bitsL n m ++ [0] = _
      rw [bits_succ, Nat.div_eq_of_lt hn]
      rfl
    · refine List.map_congr_left fun n hn => ?_
      have hn := List.mem_range.mp hn
      show bitsL n m ++ [1] = bitsL (2 ^ m + n) (m + 1)
      rw [bits_succ, bits_add]
      have e : (2 ^ m + n) / 2 ^ m % 2 = 1 := by
        rw [Nat.add_div_left _ (Nat.pow_pos (by decide)), Nat.div_eq_of_lt hn]
      rw [e]
      rfl
theorem rows_n (m : Nat) : (rowsL m).length = 2 ^ m := by rw [rows_bits]; simp
theorem rows_in {m : Nat} {r : List Int} (h : r ∈ rowsL m) : r.length = m ∧ ∀ x ∈ r, 0 ≤ x ∧ x ≤ 1 := by
  rw [rows_bits] at h
  obtain ⟨n, _, rfl⟩ := List.mem_map.mp h
  exact ⟨bits_len n m, bits_lo⟩
theorem rows_at {m n : Nat} (h : n < 2 ^ m) : (rowsL m)[n]? = some (bitsL n m) := by
  rw [rows_bits, List.getElem?_map, List.getElem?_range h]
  rfl
/-- the first row of the clerk that shows -/
def clerkL (g : List Int) (ks : List (List Int)) : Option (Int × List Int) := (List.range 4).findSome? fun w : Nat => ((rowsL ks.length).find? fun r => showsB g ks (1 + (w : Int)) r).map fun r => (1 + (w : Int), r)
theorem findSome_at {α β : Type} {f : α → Option β} : ∀ {l : List α} {n : Nat} {x : α} {y : β}, l[n]? = some x → f x = some y → (∀ n', n' < n → ∀ x', l[n']? = some x' → f x' = none) → l.findSome? f = some y
  | [], _, _, _, h, _, _ => by simp at h
  | a :: l, 0, x, y, h, e, _ => by
    simp at h; subst h
    rw [List.findSome?_cons, e]
  | a :: l, n + 1, x, y, h, e, hn => by
    rw [List.findSome?_cons, hn 0 (by omega) a rfl]
    exact findSome_at (n := n) (by simpa using h) e fun n' h' x' hx => hn (n' + 1) (by omega) x' (by simpa using hx)
theorem find_at {α : Type} {p : α → Bool} : ∀ {l : List α} {n : Nat} {x : α}, l[n]? = some x → p x = true → (∀ n', n' < n → ∀ x', l[n']? = some x' → p x' = false) → l.find? p = some x
  | [], _, _, h, _, _ => by simp at h
  | a :: l, 0, x, h, e, _ => by
    simp at h; subst h
    rw [List.find?_cons, e]
  | a :: l, n + 1, x, h, e, hn => by
    rw [List.find?_cons, hn 0 (by omega) a rfl]
    exact find_at (n := n) (by simpa using h) e fun n' h' x' hx => hn (n' + 1) (by omega) x' (by simpa using hx)
def noRow (g : List Int) (ks : List (List Int)) (w : Nat) : Prop := ∀ r ∈ rowsL ks.length, showsB g ks (1 + (w : Int)) r = false
theorem clerk_row_none {g : List Int} {ks : List (List Int)} {w : Nat} (h : noRow g ks w) : ((rowsL ks.length).find? fun r => showsB g ks (1 + (w : Int)) r) = none :=
  List.find?_eq_none.mpr fun r hr => by rw [h r hr]; exact Bool.false_ne_true
theorem clerk_none {g : List Int} {ks : List (List Int)} (h : ∀ w, w < 4 → noRow g ks w) : clerkL g ks = none := by
  unfold clerkL
  rw [List.findSome?_eq_none_iff]
  intro w hw
  rw [clerk_row_none (h w (List.mem_range.mp hw))]
  rfl
theorem clerk_some {g : List Int} {ks : List (List Int)} {w n : Nat} {r : List Int} (hw : w < 4) (h1 : ∀ w', w' < w → noRow g ks w') (hr : (rowsL ks.length)[n]? = some r) (h2 : ∀ n', n' < n → ∀ r', (rowsL ks.length)[n']? = some r' → showsB g ks (1 + (w : Int)) r' = false)
    (hs : showsB g ks (1 + (w : Int)) r = true) : clerkL g ks = some (1 + (w : Int), r) := by
  unfold clerkL
  refine findSome_at (n := w) (x := w) (by rw [List.getElem?_range hw]) (by rw [find_at hr hs h2]; rfl) fun n' hn' x' hx' => ?_
  have e := range_at hx'
  subst e
  rw [clerk_row_none (h1 _ hn')]
  rfl
theorem noRow_of {g : List Int} {ks : List (List Int)} {w : Nat} (h : ∀ n', n' < 2 ^ ks.length → ∀ r', (rowsL ks.length)[n']? = some r' → showsB g ks (1 + (w : Int)) r' = false) : noRow g ks w := fun r hr => by
  obtain ⟨n, hn⟩ := List.mem_iff_getElem?.mp hr
  have := (List.getElem?_eq_some_iff.mp hn).1
  rw [rows_n] at this
  exact h n this r hn
/-- of the clerk's rows: no row is out of form -/
theorem shows_row {g : List Int} {ks : List (List Int)} {w : Nat} {r : List Int} (h : r ∈ rowsL ks.length) : showsB g ks (1 + (w : Int)) r = goodRest (restL g ks (1 + (w : Int)) r) (1 + (w : Int)) := by
  obtain ⟨h1, h2⟩ := rows_in h
  unfold showsB
  rw [if_neg (by rw [bad_not (by omega) h1 fun x hx => (h2 x hx).1]; exact Bool.false_ne_true)]
/-- what is told of the clerk's search -/
def dFound : Option (Int × List Int) → PyData
  | none => .none
  | some r => dRow r.1 r.2
theorem okd_found : ∀ o : Option (Int × List Int), okd 2 (dFound o)
  | none => okd_non.mono (by decide)
  | some r => okd_row r.1 r.2
/-- the clerk's search: None, or a tuple of a whole number and a new list -/
def tFound (o : Option (Int × List Int)) (p : Addr) : Ty := match o with
  | none => tN
  | some r => tTV [tI r.1, tV (.ref p)]
def cFound (o : Option (Int × List Int)) (p : Addr) : List Cell := match o with
  | none => []
  | some r => [cL p (r.2.map .int)]
def nFound (o : Option (Int × List Int)) (p : Addr) : List Addr := match o with
  | none => []
  | some _ => [p]
theorem stl_row {w : Int} {ws : List Int} {p : Addr} : Stl [cL p (ws.map .int)] (tTV [tI w, tV (.ref p)]) (tD (dRow w ws)) := fun S v hc h => by
  obtain ⟨a, vs, rfl, h1, h2⟩ := h
  match vs, h2 with
  | [x, y], h2 =>
    obtain ⟨o, q1, us, rfl, q2⟩ := hc _ List.mem_cons_self
    have hy : y = .ref p := h2.2.1
    subst hy
    exact .tup h1 (.cons h2.1 (.cons (.lst q1 q2) .nil))
theorem stl_found : ∀ (o : Option (Int × List Int)) (p : Addr), Stl (cFound o p) (tFound o p) (tD (dFound o))
  | none, _ => fun _ _ _ h => h
  | some _, _ => stl_row
def pr_sought : Pr (List Int × List (List Int)) Addr where
  args := fun a => [tD (dDuty a.1 a.2)]
  cond := fun a => DutyOk a.1 a.2 ∧ a.2.length ≤ 16
  res := fun a p => tFound (clerkL a.1 a.2) p
  cout := fun a p => cFound (clerkL a.1 a.2) p
  nw := fun a p => nFound (clerkL a.1 a.2) p
/-- the law's own hands -/
abbrev sp_law_shows : Sp := spP (fun a : (List Int × List (List Int)) × (Int × List Int) => [tIs a.1.1, tLl a.1.2, tI a.2.1, tIs a.2.2]) (fun a => DutyOk a.1.1 a.1.2 ∧ Sm (a.2.1 :: a.2.2)) (fun a => tBo (goodRest (restL a.1.1 a.1.2 a.2.1 a.2.2) a.2.1))
abbrev sp_law_clerk : Sp := spP (fun a : List Int × List (List Int) => [tIs a.1, tLl a.2]) (fun a => DutyOk a.1 a.2 ∧ a.2.length ≤ 16) (fun a => tD (dFound (clerkL a.1 a.2)))
abbrev sp_law_alike : Sp := spP (fun o : Option (Int × List Int) => [tD (dFound o), tD (dFound o)]) (fun o => ∀ r, o = some r → r.2.length ≤ 1000) (fun _ => tBo true)
theorem clerk_small {g : List Int} {ks : List (List Int)} (h : ks.length ≤ 16) : ∀ r, clerkL g ks = some r → r.2.length ≤ 1000 := fun r hr => by
  unfold clerkL at hr
  obtain ⟨w, _, e⟩ := List.exists_of_findSome?_eq_some hr
  obtain ⟨x, h1, rfl⟩ := Option.map_eq_some_iff.mp e
  have := (rows_in (List.mem_of_find?_eq_some h1)).1
  show x.length ≤ 1000
  omega
abbrev sp_bits : Sp := spO (fun a : Nat × Nat => [tI (a.1 : Int), tI (a.2 : Int)]) (fun a => a.2 ≤ 1000) (fun a => (bitsL a.1 a.2).map .int)
section
variable {m : Bool} {Γ : List Sl} {C : List Cell} {E : XK} {t1 t2 t3 t4 : TE} {g ws : List Int} {ks : List (List Int)} {wh : Int}
theorem V_shows (h1 : SE false t1 Γ C (tD (dDuty g ks))) (h2 : SE false t2 Γ C (tD (dRow wh ws))) (h : DutyOk g ks ∧ Sm (wh :: ws) ∧ ws.length ≤ 1000) : SE m (tCall sp_shows [] E (tCons t1 (tCons t2 tNil))) Γ C (tBo (showsB g ks wh ws)) := e_callA ((g, ks), (wh, ws)) (a_cons h1 (a_cons h2 a_nil)) rfl h atom_bl
theorem E_law_shows (h1 : SE true t1 Γ C (tIs g)) (h2 : SE true t2 Γ C (tLl ks)) (h3 : SE true t3 Γ C (tI wh)) (h4 : SE true t4 Γ C (tIs ws)) (h : DutyOk g ks ∧ Sm (wh :: ws)) : SE true (tCall sp_law_shows [] E (tCons t1 (tCons t2 (tCons t3 (tCons t4 tNil))))) Γ C (tBo (goodRest (restL g ks wh ws) wh)) := e_call ((g, ks), (wh, ws)) (a_cons h1 (a_cons h2 (a_cons h3 (a_cons h4 a_nil)))) rfl h
theorem E_law_clerk (h1 : SE true t1 Γ C (tIs g)) (h2 : SE true t2 Γ C (tLl ks)) (h : DutyOk g ks ∧ ks.length ≤ 16) : SE true (tCall sp_law_clerk [] E (tCons t1 (tCons t2 tNil))) Γ C (tD (dFound (clerkL g ks))) := e_call (g, ks) (a_cons h1 (a_cons h2 a_nil)) rfl h
theorem E_law_alike {o : Option (Int × List Int)} (h1 : SE true t1 Γ C (tD (dFound o))) (h2 : SE true t2 Γ C (tD (dFound o))) (h : ∀ r, o = some r → r.2.length ≤ 1000) : SE true (tCall sp_law_alike [] E (tCons t1 (tCons t2 tNil))) Γ C (tBo true) := e_call o (a_cons h1 (a_cons h2 a_nil)) rfl h
theorem V_law_alike {o : Option (Int × List Int)} (h1 : SE false t1 Γ C (tD (dFound o))) (h2 : SE false t2 Γ C (tD (dFound o))) (h : ∀ r, o = some r → r.2.length ≤ 1000) : SE m (tCall sp_law_alike [] E (tCons t1 (tCons t2 tNil))) Γ C (tBo true) := e_callA o (a_cons h1 (a_cons h2 a_nil)) rfl h atom_bl
theorem M_sought (h1 : SE true t1 Γ C (tD (dDuty g ks))) (h : DutyOk g ks ∧ ks.length ≤ 16) : SM (tCall (spG pr_sought) [] E (tCons t1 tNil)) Γ C (fun _ => True) (fun p => tFound (clerkL g ks) p) (fun p => cFound (clerkL g ks) p ++ C) (fun p => nFound (clerkL g ks) p) :=
  m_call (p := pr_sought) (g, ks) (a_cons h1 a_nil) rfl h .nil .nil (fun _ z => (nomatch z)) rfl
theorem E_sought (h1 : SE true t1 Γ C (tD (dDuty g ks))) (h : DutyOk g ks ∧ ks.length ≤ 16) : SE true (tCall (spG pr_sought) [] E (tCons t1 tNil)) Γ C (tD (dFound (clerkL g ks))) :=
  e_callS (p := pr_sought) (g, ks) (a_cons h1 a_nil) rfl h rfl .nil rfl fun p _ => stl_found _ p
end
end Sw
namespace Sw
open PySem L2
def topS (i : Nat) : Stmt := PySem.Challenge.pw_swornhall_k06_the_clerk.main.body.getD i (.Pass ⟨0, 0, 0, 0⟩)
abbrev s_summed : Stmt := topS 1
abbrev n_summed : List Str := ["lines", "weights", "total", "line", "weight", "a", "b"]
theorem sc_summed : FnScope n_summed ["lines", "weights"] (defScope s_summed) := ⟨rfl, rfl, rfl, by decide +kernel, rfl, by decide +kernel, by decide +kernel⟩
abbrev s_shows : Stmt := topS 3
abbrev n_shows : List Str := ["duty", "row", "goal", "known", "whole", "weights", "rest", "weight", "factor"]
theorem sc_shows : FnScope n_shows ["duty", "row"] (defScope s_shows) := ⟨rfl, rfl, rfl, by decide +kernel, rfl, by decide +kernel, by decide +kernel⟩
abbrev s_bits : Stmt := topS 4
abbrev n_bits : List Str := ["number", "many", "found", "k"]
theorem sc_bits : FnScope n_bits ["number", "many"] (defScope s_bits) := ⟨rfl, rfl, rfl, by decide +kernel, rfl, by decide +kernel, by decide +kernel⟩
abbrev s_sought : Stmt := topS 5
abbrev n_sought : List Str := ["duty", "ways", "line", "whole", "number", "row"]
theorem sc_sought : FnScope n_sought ["duty"] (defScope s_sought) := ⟨rfl, rfl, rfl, by decide +kernel, rfl, by decide +kernel, by decide +kernel⟩
abbrev s_law_cell_at : Stmt := topS 7
abbrev n_law_cell_at : List Str := ["script", "k"]
theorem sc_law_cell_at : FnScope n_law_cell_at ["script", "k"] (defScope s_law_cell_at) := ⟨rfl, rfl, rfl, by decide +kernel, rfl, by decide +kernel, by decide +kernel⟩
abbrev s_law_mix : Stmt := topS 8
abbrev n_law_mix : List Str := ["cell", "k", "many"]
theorem sc_law_mix : FnScope n_law_mix ["cell", "k", "many"] (defScope s_law_mix) := ⟨rfl, rfl, rfl, by decide +kernel, rfl, by decide +kernel, by decide +kernel⟩
abbrev s_law_number : Stmt := topS 9
abbrev n_law_number : List Str := ["cell", "k", "kind"]
theorem sc_law_number : FnScope n_law_number ["cell", "k"] (defScope s_law_number) := ⟨rfl, rfl, rfl, by decide +kernel, rfl, by decide +kernel, by decide +kernel⟩
abbrev s_law_line_by : Stmt := topS 10
abbrev n_law_line_by : List Str := ["cell", "zero", "line", "k"]
theorem sc_law_line_by : FnScope n_law_line_by ["cell", "zero"] (defScope s_law_line_by) := ⟨rfl, rfl, rfl, by decide +kernel, rfl, by decide +kernel, by decide +kernel⟩
abbrev s_law_whole : Stmt := topS 11
abbrev n_law_whole : List Str := ["found"]
theorem sc_law_whole : FnScope n_law_whole ["found"] (defScope s_law_whole) := ⟨rfl, rfl, rfl, by decide +kernel, rfl, by decide +kernel, by decide +kernel⟩
abbrev s_law_shows : Stmt := topS 12
abbrev n_law_shows : List Str := ["goal", "known", "whole", "weights", "rest", "line", "weight", "x", "a", "b"]
theorem sc_law_shows : FnScope n_law_shows ["goal", "known", "whole", "weights"] (defScope s_law_shows) := ⟨rfl, rfl, rfl, by decide +kernel, rfl, by decide +kernel, by decide +kernel⟩
abbrev s_law_due : Stmt := topS 13
abbrev n_law_due : List Str := ["goal", "known", "rows", "line", "whole", "weights", "row"]
theorem sc_law_due : FnScope n_law_due ["goal", "known"] (defScope s_law_due) := ⟨rfl, rfl, rfl, by decide +kernel, rfl, by decide +kernel, by decide +kernel⟩
abbrev s_law_alike : Stmt := topS 14
abbrev n_law_alike : List Str := ["found", "due", "x"]
theorem sc_law_alike : FnScope n_law_alike ["found", "due"] (defScope s_law_alike) := ⟨rfl, rfl, rfl, by decide +kernel, rfl, by decide +kernel, by decide +kernel⟩
abbrev s_law : Stmt := topS 15
abbrev n_law : List Str := ["script", "many", "known", "k", "cell", "whole", "goal", "near", "rest", "duty", "due", "found", "line", "i", "a", "b"]
theorem sc_law : FnScope n_law ["script"] (defScope s_law) := ⟨rfl, rfl, rfl, by decide +kernel, rfl, by decide +kernel, by decide +kernel⟩
structure Txt (K : PySem.W.Frag) (mg : Str → Option Value) : Prop where
  d_summed : Def K mg "summed" s_summed ["lines", "weights"]
  d_shows : Def K mg "shows" s_shows ["duty", "row"]
  d_bits : Def K mg "bits" s_bits ["number", "many"]
  d_sought : Def K mg "sought" s_sought ["duty"]
  d_law_cell_at : Def K mg "_law_cell_at" s_law_cell_at ["script", "k"]
  d_law_mix : Def K mg "_law_mix" s_law_mix ["cell", "k", "many"]
  d_law_number : Def K mg "_law_number" s_law_number ["cell", "k"]
  d_law_line_by : Def K mg "_law_line_by" s_law_line_by ["cell", "zero"]
  d_law_whole : Def K mg "_law_whole" s_law_whole ["found"]
  d_law_shows : Def K mg "_law_shows" s_law_shows ["goal", "known", "whole", "weights"]
  d_law_due : Def K mg "_law_due" s_law_due ["goal", "known"]
  d_law_alike : Def K mg "_law_alike" s_law_alike ["found", "due"]
  d_law : Def K mg "law" s_law ["script"]
  z_all : mg "all" = none
  z_any : mg "any" = none
  z_bool : mg "bool" = none
  z_int : mg "int" = none
  z_isinstance : mg "isinstance" = none
  z_len : mg "len" = none
  z_list : mg "list" = none
  z_range : mg "range" = none
  z_tuple : mg "tuple" = none
  z_zip : mg "zip" = none
section
variable {P : Program} {w : World} {K : PySem.W.Frag} {mg : Str → Option Value} {base : Heap}
/-! ### summed -/
-- needs: base
theorem c_summed (T : Txt K mg) : Cal P w K mg base 1 "summed" ["lines", "weights"] sp_summed := by
  refine fn_O T.d_summed sc_summed (fun _ => rfl) fun f cdv A outer s H E hr => ⟨_, (pss_cons (ps_set (i := 2) sc_summed.nd rfl (.inl rfl) (pe_op op_rep (pe_lst (pa_cons pe_int pa_nil)) pe_int))
    (pss_cons (ps_for PassesOwn.never rfl (kpZip K T.z_zip (pa_cons (pv 0) (pa_cons (pv 1) pa_nil))) (kgTup K 2 rfl (pgs_cons (pg_name (i := 3) sc_summed.nd rfl (.inl rfl)) (pgs_cons (pg_name (i := 4) sc_summed.nd rfl (.inr rfl)) pgs_nil)))
    (pss_cons (ps_setLc (i := 2) (own := [("a", 5), ("b", 6)]) (g := (gTup K 2 (gCons (gName 5) (gCons (gName 6) gNil)))) (tt := tYes) rfl sc_summed.nd rfl rfl (sw_true rfl rfl rfl (by decide +kernel)) (kpZip K T.z_zip (pa_cons (pv 2) (pa_cons (pv 3) pa_nil))) (blkOk_by (N := n_summed) (sc := defScope s_summed) (by decide +kernel)) (fun _ _ _ _ _ => (kgTup K 2 rfl (pgs_cons (pg_name (i := 5) sc_summed.nd rfl (.inl rfl)) (pgs_cons (pg_name (i := 6) sc_summed.nd rfl (.inl rfl)) pgs_nil)))) (fun _ _ _ _ _ => pts_nil) (fun _ _ _ _ _ => (pe_op op_add (pv 5) (pe_op op_mul (pv 4) (pv 6)))))
    pss_nil))
    (pss_cons (ps_ret (pv 2))
    pss_nil))), ?_⟩
  rintro ⟨lines, ws⟩ F hF hb
  try dsimp only [L2.cxOf]
  have hb : Sm ws ∨ ∀ l ∈ lines, Sm l := hb
  refine ss_setO (o_rep1 e_int e_int (by decide) (by decide)) fun p _ hn => ?_
  refine ss_for (γ := Addr) (w_map (ys := lines.zip ws) (f := fun p : List Int × Int => (dIs p.1, PyData.int p.2)) (ty' := fun p => tTp [dIs p.1, .int p.2]) (w_zip (a_cons (e_var rfl) (a_cons (e_var rfl) a_nil))) (zip_map_line lines ws) (fun _ => rfl))
    (fun _ p => F.H p = none) (fun i p => [some (tLl lines), some (tIs ws), some (tV (.ref p)), none, none, none, none]) (fun i p => [cL p ((((lines.zip ws).take i).foldl (fun t p => zipAdd t p.1 p.2) zeros).map .int)]) p hn
    ⟨.inr rfl, .inr rfl, .inr rfl, .inl rfl, .inl rfl, .inl rfl, .inl rfl, trivial⟩ (by rfl) ?_ ?_
  · rintro i p ⟨line, wt⟩ hi hp
    refine ⟨_, _, g_tup (gs_cons g_name (gs_cons g_name gs_nil)) rfl, ?_⟩
    generalize hT : ((lines.zip ws).take i).foldl (fun t p => zipAdd t p.1 p.2) zeros = total
    refine ss_settle 2 rfl hp ?_
    have hx : line ∈ lines := (List.of_mem_zip (List.mem_of_getElem? hi)).1
    have hy : wt ∈ ws := (List.of_mem_zip (List.mem_of_getElem? hi)).2
    refine ss_setO (o_lcI (xs := total.zip line) (ty := fun p : Int × Int => tTp [.int p.1, .int p.2]) (fun p : Int × Int => p.1 + wt * p.2) (w_map (w_zip (a_cons (e_var rfl) (a_cons (e_var rfl) a_nil))) (zip_map_int total line) (fun _ => rfl)) ?_ ?_) fun p' _ hn' => ?_
    · have h1 := fold_le (zs := (lines.zip ws).take i) (t := zeros)
      rw [hT] at h1
      have h2 : zeros.length = 9 := by simp [zeros]
      rw [List.length_zip]
      omega
    · rintro j ⟨a, b⟩ hj
      refine ⟨_, _, g_tup (gs_cons g_name (gs_cons g_name gs_nil)) rfl, by simp, e_op (e_var rfl) (e_op (e_var rfl) (e_var rfl) (r_I ?_)) r_I0⟩
      exact hb.elim (fun h => .inl (h wt hy)) (fun h => .inr (h line hx b (List.of_mem_zip (List.mem_of_getElem? hj)).2))
    · refine ss_nil fun σ H S s => ⟨p', hn', ?_⟩
      rw [foldl_take _ _ hi, hT]
      exact s.weak ⟨.inr rfl, .inr rfl, .inr rfl, .inl rfl, .inl rfl, .inl rfl, .inl rfl, trivial⟩
  · intro p hp
    refine ss_retOwnIs rfl hp ?_
    rw [List.take_length]
    rfl

/-! ### shows -/
-- needs: rows
theorem c_shows (T : Txt K mg) : Cal P w K mg base 2 "shows" ["duty", "row"] sp_shows := by
  refine fn_P T.d_shows sc_shows (fun _ => rfl) fun f cdv A outer s H E hr => ⟨_, (pss_cons (ps_asg (pv 0) (kgTup K 2 rfl (pgs_cons (pg_name (i := 2) sc_shows.nd rfl (.inl rfl)) (pgs_cons (pg_name (i := 3) sc_shows.nd rfl (.inl rfl)) pgs_nil))))
    (pss_cons (ps_asg (pv 1) (kgTup K 2 rfl (pgs_cons (pg_name (i := 4) sc_shows.nd rfl (.inl rfl)) (pgs_cons (pg_name (i := 5) sc_shows.nd rfl (.inl rfl)) pgs_nil))))
    (pss_cons (ps_if (PW.pt (pw_or (pt_cmpR op_lt (pv 4) pe_int (nomark _)) (pw_or (pt_cmpR op_ne (pe_callB (kLen K) (by rfl) T.z_len PySem.boot_len (pa_cons (pv 5) pa_nil)) (pe_callB (kLen K) (by rfl) T.z_len PySem.boot_len (pa_cons (pv 3) pa_nil)) (nomark _)) (pw_or1 (pt_val (pe_callB (kAny K rfl) (by rfl) T.z_any (by decide +kernel) (pa_cons (pe_lc (own := [("weight", 7)]) (g := (gName 7)) (tt := tYes) rfl sc_shows.nd (kpList K (pv 5)) (blkOk_by (N := n_shows) (sc := defScope s_shows) (by decide +kernel)) (fun _ _ _ _ _ => (pg_name (i := 7) sc_shows.nd rfl (.inl rfl))) (fun _ _ _ _ _ => pts_nil) (fun _ _ _ _ _ => (pe_cmpR op_lt (pv 7) pe_int (nomark _)))) pa_nil)))))))
    (pss_cons (ps_ret pe_bl)
    pss_nil) pss_nil)
    (pss_cons (ps_set (i := 6) sc_shows.nd rfl (.inl rfl) (pc (c_summed T) hr (pa_cons (pe_op op_cat (pe_lst (pa_cons (pv 2) pa_nil)) (pv 3)) (pa_cons (pe_op op_cat (pe_lst (pa_cons (pv 4) pa_nil)) (pe_lc (own := [("weight", 7)]) (g := (gName 7)) (tt := tYes) rfl sc_shows.nd (kpList K (pv 5)) (blkOk_by (N := n_shows) (sc := defScope s_shows) (by decide +kernel)) (fun _ _ _ _ _ => (pg_name (i := 7) sc_shows.nd rfl (.inl rfl))) (fun _ _ _ _ _ => pts_nil) (fun _ _ _ _ _ => (pe_un un_neg (pv 7))))) pa_nil))))
    (pss_cons (ps_ret (pe_and (pe_callB (kAll K rfl) (by rfl) T.z_all (by decide +kernel) (pa_cons (pe_lc (own := [("factor", 8)]) (g := (gName 8)) (tt := tYes) rfl sc_shows.nd (kpList K (pe_slice (kSlL K) (pv 6) (po_some pe_int) po_none)) (blkOk_by (N := n_shows) (sc := defScope s_shows) (by decide +kernel)) (fun _ _ _ _ _ => (pg_name (i := 8) sc_shows.nd rfl (.inl rfl))) (fun _ _ _ _ _ => pts_nil) (fun _ _ _ _ _ => (pe_cmpR op_eq (pv 8) pe_int (nomark _)))) pa_nil)) (pe_one (pe_cmpR op_gt (pe_ix (kIxL K) (pv 6) pe_int (fun _ _ => rfl)) (pe_un un_neg (pv 4)) (nomark _)))))
    pss_nil))))), ?_⟩
  rintro ⟨⟨g, ks⟩, wh, ws⟩ F hF ⟨⟨g9, k9, few⟩, hb, hw⟩
  have g9 : g.length = 9 := g9
  have k9 : ∀ k ∈ ks, k.length = 9 := k9
  have few : ks.length ≤ 1000 := few
  have hb : Sm (wh :: ws) := hb
  have hw : ws.length ≤ 1000 := hw
  show SS F _ _ _ (retP F (tBo (showsB g ks wh ws)))
  refine ss_asg (e_var rfl) (g_tup (gs_cons g_name (gs_cons g_name gs_nil)) rfl) ?_
  refine ss_asg (e_var rfl) (g_tup (gs_cons g_name (gs_cons g_name gs_nil)) rfl) ?_
  refine ss_if (b := badRow ks wh ws) (t_is (t_or (t_test (e_op (e_var rfl) e_int r_B0)) (fun _ => t_or (t_test (e_op (e_cb (a_cons (e_var rfl) a_nil) c_lenL) (e_cb (a_cons (e_var rfl) a_nil) c_lenL) r_neI)) (fun _ => t_B (e_cb (a_cons (e_ofO (o_lcB (xs := ws) (ty := tI) (fun w => decide (w < 0)) (w_map (w_list (e_var rfl)) rfl (fun _ => rfl)) (by omega) fun i b hb => ⟨_, _, g_name, by simp, (e_op (e_var rfl) e_int r_B0)⟩)) a_nil) c_any)))) ?_) (fun h => ?_) (fun h => ?_)
  · rw [List.length_map, List.length_map]
    rfl
  · refine ss_assoc (ss_retIs e_bl ?_)
    unfold showsB
    rw [if_pos h]
  · refine ss_next (ss_set (e_ofO (O_summed (lines := g :: ks) (ws := wh :: ws.map fun w => -w) (e_ofO (o_cat (ds := [dIs g]) (e_lst (ad_cons (e_var rfl) ad_nil) (by simp)) (e_var rfl) (by simp; omega))) (e_ofO (o_cat (ds := [.int wh]) (e_lst (ad_cons (e_var rfl) ad_nil) (by simp)) (e_ofO (o_lcI (xs := ws) (ty := tI) (fun w => -w) (w_map (w_list (e_var rfl)) rfl (fun _ => rfl)) (by omega) fun i b hb => ⟨_, _, g_name, by simp, (e_un (e_var rfl) r_neg)⟩)) (by simp; omega))) (.inl ?_))) ?_)
    · intro x hx
      rcases List.mem_cons.mp hx with e | hx
      · subst e; exact hb _ List.mem_cons_self
      · obtain ⟨y, hy, rfl⟩ := List.mem_map.mp hx
        have := hb y (List.mem_cons_of_mem _ hy)
        omega
    · have hs : showsB g ks wh ws = goodRest (restL g ks wh ws) wh := by
        unfold showsB
        rw [if_neg (by rw [h]; exact Bool.false_ne_true)]
      rw [summed_rest g9, hs]
      have r9 := rest_len (wh := wh) (ws := ws) g9 k9
      generalize restL g ks wh ws = r at *
      refine ss_retIs (e_and (e_cb (a_cons (e_ofO (o_lcB (xs := r.tail) (ty := tI) (fun f => decide (f = 0)) (w_map (w_list (e_ofO (o_sl (e_var rfl) p_int p_none))) (by rw [cutD_tail, ← List.map_tail]) (fun _ => rfl)) (by rw [List.length_tail, r9]; decide) fun i b hb => ⟨_, _, g_name, by simp, (e_op (e_var rfl) e_int r_eqI)⟩)) a_nil) c_all) (fun _ => e_op (e_op (e_var rfl) e_int (r_ixL (atI_Di (by decide) (by omega)))) (e_un (e_var rfl) r_neg) r_B0)) ?_
      rw [getD_head]
      rfl

/-! ### bits -/
-- needs: clerk
theorem c_bits (T : Txt K mg) : Cal P w K mg base 1 "bits" ["number", "many"] sp_bits := by
  refine fn_O T.d_bits sc_bits (fun _ => rfl) fun f cdv A outer s H E hr => ⟨_, (pss_cons (ps_set (i := 2) sc_bits.nd rfl (.inl rfl) (pe_lst pa_nil))
    (pss_cons (ps_for PassesOwn.never rfl (pi_range1 rfl T.z_range (pa_cons (pv 1) pa_nil)) (pg_name (i := 3) sc_bits.nd rfl (.inl rfl))
    (pss_cons (ps_expr (kBM K (pe_bm PySem.F.plainAttrs_list PySem.F.slot_list_append PySem.F.type_list_append mt_append (pv 2) (pa_cons (pe_op op_mod (pv 0) pe_int) pa_nil))))
    (pss_cons (ps_set (i := 0) sc_bits.nd rfl (.inl rfl) (pe_op op_fdiv (pv 0) pe_int))
    pss_nil)))
    (pss_cons (ps_ret (pv 2))
    pss_nil))), ?_⟩
  rintro ⟨n, m⟩ F hF hm
  have hm : m ≤ 1000 := hm
  refine ss_setO (o_lst ad_nil (by decide)) fun p _ hp => ?_
  refine ss_for (γ := Unit) (w_range1 (a_cons (e_var rfl) a_nil) (by omega) (by omega)) (fun _ _ => True) (fun i _ => [some (tI ((n / 2 ^ i : Nat) : Int)), some (tI (m : Int)), some (tV (.ref p)), none]) (fun i _ => [cL p ((bitsL n i).map .int)]) () trivial ⟨.inr (by rw [Nat.pow_zero, Nat.div_one]), .inr rfl, .inr rfl, .inl rfl, trivial⟩ rfl ?_ ?_
  · rintro i _ j hi _
    refine ⟨_, _, g_name, ?_⟩
    refine ss_app rfl (e_op (e_var rfl) e_int (r_I (by first | decide | omega | assumption | trivial))) (by rw [List.length_map, bits_len]; have := (List.getElem?_eq_some_iff.mp hi).1; simp at this; omega) ?_ rfl
    refine ss_set (e_op (e_var rfl) e_int (r_I ⟨(by first | decide | omega | assumption | trivial), (by first | decide | omega | assumption | trivial)⟩)) ?_
    refine ss_nil fun σ H S s => ⟨(), trivial, ?_⟩
    have e1 : ((n / 2 ^ i : Nat) : Int) / 2 = ((n / 2 ^ (i + 1) : Nat) : Int) := by
      rw [Nat.pow_succ, ← Nat.div_div_eq_div_mul]
      omega
    have e2 : ((n / 2 ^ i : Nat) : Int) % 2 = ((n / 2 ^ i % 2 : Nat) : Int) := by omega
    rw [e1, e2] at s
    rw [bits_succ, List.map_append]
    exact s.weak (by repeat (first | exact trivial | refine ⟨.inr rfl, ?_⟩ | refine ⟨.inl rfl, ?_⟩))
  · intro _ _
    refine ss_retOwnIs rfl hp ?_
    rw [List.length_range, Int.toNat_natCast]

/-! ### sought -/
-- needs: clerk
theorem c_sought (T : Txt K mg) : Cal P w K mg base 3 "sought" ["duty"] (spG pr_sought) := by
  refine fn_G T.d_sought sc_sought (fun _ => rfl) fun f cdv A outer s H E hr => ⟨_, (pss_cons (ps_set (i := 1) sc_sought.nd rfl (.inl rfl) pe_int)
    (pss_cons (ps_for PassesOwn.never rfl (kpList K (pe_ix (kIxT K) (pv 0) pe_int (fun _ _ => rfl))) (pg_name (i := 2) sc_sought.nd rfl (.inl rfl))
    (pss_cons (ps_set (i := 1) sc_sought.nd rfl (.inl rfl) (pe_op op_mul pe_int (pv 1)))
    pss_nil))
    (pss_cons (ps_for PassesOwn.never rfl (pi_range2 rfl T.z_range (pa_cons pe_int (pa_cons pe_int pa_nil))) (pg_name (i := 3) sc_sought.nd rfl (.inl rfl))
    (pss_cons (ps_for PassesOwn.never rfl (pi_range1 rfl T.z_range (pa_cons (pv 1) pa_nil)) (pg_name (i := 4) sc_sought.nd rfl (.inl rfl))
    (pss_cons (ps_set (i := 5) sc_sought.nd rfl (.inl rfl) (pe_tup (pa_cons (pv 3) (pa_cons (pc (c_bits T) hr (pa_cons (pv 4) (pa_cons (pe_callB (kLen K) (by rfl) T.z_len PySem.boot_len (pa_cons (pe_ix (kIxT K) (pv 0) pe_int (fun _ _ => rfl)) pa_nil)) pa_nil))) pa_nil))))
    (pss_cons (ps_if (pt_val (pc (c_shows T) hr (pa_cons (pv 0) (pa_cons (pv 5) pa_nil))))
    (pss_cons (ps_ret (pv 5))
    pss_nil) pss_nil)
    pss_nil)))
    pss_nil))
    (pss_cons (ps_ret pe_non)
    pss_nil)))), ?_⟩
  rintro ⟨g, ks⟩ F hF ⟨ok, h16⟩ _
  have ok : DutyOk g ks := ok
  have h16 : ks.length ≤ 16 := h16
  have hp16 : 2 ^ ks.length ≤ 65536 := Nat.le_trans (Nat.pow_le_pow_right (by decide) h16) (by decide)
  refine ss_set e_int ?_
  refine ss_for (γ := Unit) (w_list (e_op (e_var rfl) e_int (r_ixT (atI_nat (j := 1) rfl)))) (fun _ _ => True) (fun i _ => [some (tD (dDuty g ks)), some (tI ((2 ^ i : Nat) : Int)), none, none, none, none]) (fun _ _ => []) () trivial (by repeat (first | exact trivial | refine ⟨.inr rfl, ?_⟩ | refine ⟨.inl rfl, ?_⟩)) rfl ?_ ?_
  · rintro i _ d hi _
    refine ⟨_, _, g_name, ?_⟩
    refine ss_set (e_op e_int (e_var rfl) (r_I (by first | exact .inl (by decide) | exact .inr (by decide) | exact .inl (by omega) | exact .inr (by omega)))) ?_
    refine ss_nil fun σ H S s => ⟨(), trivial, ?_⟩
    have e1 : 2 * ((2 ^ i : Nat) : Int) = ((2 ^ (i + 1) : Nat) : Int) := by rw [Nat.pow_succ]; omega
    rw [e1] at s
    exact s.weak (by repeat (first | exact trivial | refine ⟨.inr rfl, ?_⟩ | refine ⟨.inl rfl, ?_⟩))
  · rintro _ _
    rw [List.length_map]
    obtain ⟨N, hN⟩ : ∃ N, N = 2 ^ ks.length := ⟨_, rfl⟩
    rw [← hN] at hp16
    rw [← hN]
    refine ss_for (γ := Unit) (w_range2 (a_cons e_int (a_cons e_int a_nil)) (by decide)) (fun i _ => ∀ w, w < i → noRow g ks w) (fun i _ => [some (tD (dDuty g ks)), some (tI (N : Int)), none, none, none, none]) (fun _ _ => []) () (fun _ z => absurd z (Nat.not_lt_zero _)) (by repeat (first | exact trivial | refine ⟨.inr rfl, ?_⟩ | refine ⟨.inl rfl, ?_⟩)) rfl ?_ ?_
    · rintro i _ x hi hno
      obtain rfl := range_at hi
      have hi4 : x < 4 := by have := (List.getElem?_eq_some_iff.mp hi).1; simpa using this
      refine ⟨_, _, g_name, ?_⟩
      refine ss_for (γ := Unit) (w_range1 (a_cons (e_var rfl) a_nil) (by omega) (by omega)) (fun j _ => ∀ n', n' < j → ∀ r', (rowsL ks.length)[n']? = some r' → showsB g ks (1 + (x : Int)) r' = false) (fun j _ => [some (tD (dDuty g ks)), some (tI (N : Int)), none, some (tI (1 + (x : Int))), none, none]) (fun _ _ => []) () (fun _ z => absurd z (Nat.not_lt_zero _)) (by repeat (first | exact trivial | refine ⟨.inr rfl, ?_⟩ | refine ⟨.inl rfl, ?_⟩)) rfl ?_ ?_
      · rintro j _ y hj hn
        obtain rfl := range_at hj
        have hj2 : y < 2 ^ ks.length := by have := (List.getElem?_eq_some_iff.mp hj).1; rw [List.length_range, Int.toNat_natCast] at this; exact hN ▸ this
        have hrow := rows_at hj2
        refine ⟨_, _, g_name, ?_⟩
        refine ss_setM (m_tup (am_e (e_var rfl) (am_m (m_o (o_call (y, ks.length) (a_cons (e_var rfl) (a_cons (e_is (e_cb (a_cons (e_op (e_var rfl) e_int (r_ixT (atI_nat (j := 1) rfl))) a_nil) c_lenL) (by rw [List.length_map])) a_nil)) rfl (by show ks.length ≤ 1000; omega))) fun p _ => a_nil)) (fun _ => by simp)) fun p hp hq => ?_
        have hq : F.H p = none := hq p List.mem_cons_self
        have hbl := bits_lo (n := y) (m := ks.length)
        have hbn := bits_len y ks.length
        dsimp only
        refine ss_if (t_B (V_shows (m := true) (e_var rfl) (e_seen (cs := [cL p ((bitsL y ks.length).map .int)]) (T := tTV [tI (1 + (x : Int)), tV (.ref p)]) (e_var rfl) (.cons .here .nil) stl_row) ⟨ok, fun z hz => ?_, by omega⟩)) (fun h => ?_) (fun h => ?_)
        · rcases List.mem_cons.mp hz with e | hz
          · subst e; omega
          · have := hbl z hz; omega
        · have hc : clerkL g ks = some (1 + (x : Int), bitsL y ks.length) := clerk_some hi4 hno hrow hn h
          refine ss_assoc (ss_retG (p := pr_sought) (a := (g, ks)) (E := E) (Cr := []) p (e_is (e_var rfl) ?_) trivial ?_ ?_ ?_)
          · show _ = tFound (clerkL g ks) p
            rw [hc]
            rfl
          · show Pks _ (cFound (clerkL g ks) p) _
            rw [hc]
            exact .cons .here .nil
          · show ∀ q ∈ nFound (clerkL g ks) p, _
            rw [hc]
            intro q hq'
            rw [List.mem_singleton.mp hq']
            exact hq
          · show ∀ c ∈ cFound (clerkL g ks) p, F.M c.p ∨ c.p ∈ nFound (clerkL g ks) p
            rw [hc]
            intro c hc'
            rw [List.mem_singleton.mp hc']
            exact .inr List.mem_cons_self
        · refine ss_next (ss_forget (ss_nil fun σ H S s => ⟨(), fun n' hn' r' hr' => ?_, s.weak (by repeat (first | exact trivial | refine ⟨.inr rfl, ?_⟩ | refine ⟨.inl rfl, ?_⟩))⟩))
          by_cases e : n' < y
          · exact hn n' e r' hr'
          · obtain rfl : n' = y := by omega
            rw [hrow] at hr'
            cases hr'
            exact h
      · intro _ hn
        rw [List.length_range, Int.toNat_natCast, hN] at hn
        refine ss_nil fun σ H S s => ⟨(), fun w hw => ?_, s.weak (by repeat (first | exact trivial | refine ⟨.inr rfl, ?_⟩ | refine ⟨.inl rfl, ?_⟩))⟩
        by_cases e : w < x
        · exact hno w e
        · obtain rfl : w = x := by omega
          exact noRow_of hn
    · intro _ hno
      have hc : clerkL g ks = none := clerk_none fun w hw => hno w (by rw [List.length_range]; exact hw)
      refine ss_retG (p := pr_sought) (a := (g, ks)) (E := E) (Cr := []) 0 (e_is e_non ?_) trivial ?_ ?_ ?_
      · show _ = tFound (clerkL g ks) 0
        rw [hc]
        rfl
      · show Pks _ (cFound (clerkL g ks) 0) _
        rw [hc]
        exact .nil
      · show ∀ q ∈ nFound (clerkL g ks) 0, _
        rw [hc]
        exact fun _ z => (nomatch z)
      · show ∀ c ∈ cFound (clerkL g ks) 0, F.M c.p ∨ c.p ∈ nFound (clerkL g ks) 0
        rw [hc]
        exact fun _ z => (nomatch z)

/-! ### _law_cell_at -/
-- needs: base
theorem c_law_cell_at (T : Txt K mg) : Cal P w K mg base 1 "_law_cell_at" ["script", "k"] (sp_law_cell_at K) := by
  refine fn_P T.d_law_cell_at sc_law_cell_at (fun _ => rfl) fun f cdv A outer s H E hr => ⟨_, (pss_cons (ps_if (pt_cmpR op_lt (pv 1) (pe_callB (kLen K) (by rfl) T.z_len PySem.boot_len (pa_cons (pv 0) pa_nil)) (nomark _))
    (pss_cons (ps_ret (pe_ix (kIxL K) (pv 0) (pv 1) (fun _ _ => rfl)))
    pss_nil) pss_nil)
    (pss_cons (ps_ret pe_int)
    pss_nil)), ?_⟩
  rintro ⟨ns, k⟩ F hF hc
  try dsimp only [L2.cxOf]
  have hc : 0 ≤ k := hc
  refine ss_if (t_test (e_op (e_var rfl) (e_cb (a_cons (e_var rfl) a_nil) c_lenScr) r_B0)) (fun h => ?_) (fun h => ?_)
  · have h : k < (ns.length : Int) := of_decide_eq_true h
    exact ss_assoc (ss_retP (e_op (e_var rfl) (e_var rfl) (r_ixScr (atI_D hc h))))
  · have h : ¬ k < (ns.length : Int) := of_decide_eq_false h
    refine ss_next (ss_retIs e_int ?_)
    show tI 0 = tI (cellAt ns k)
    unfold cellAt
    rw [List.getD_eq_getElem?_getD, List.getElem?_eq_none (by omega)]
    rfl

/-! ### _law_mix -/
-- needs: base
theorem c_law_mix (T : Txt K mg) : Cal P w K mg base 1 "_law_mix" ["cell", "k", "many"] sp_law_mix := by
  refine fn_P T.d_law_mix sc_law_mix (fun _ => rfl) fun f cdv A outer s H E hr => ⟨_, (pss_cons (ps_ret (pe_op op_mod (pe_op op_fdiv (pe_op op_mod (pe_op op_mul (pe_op op_add (pe_op op_mod (pv 0) pe_int) pe_int) (pe_op op_add pe_int (pe_op op_mul pe_int (pv 1)))) pe_int) pe_int) (pv 2)))
    pss_nil), ?_⟩
  rintro ⟨c, k, m⟩ F hF hc
  try dsimp only [L2.cxOf]
  have hc : 0 < m := hc
  exact ss_retP (e_op (e_op (e_op (e_op (e_op (e_op (e_var rfl) e_int (r_I (by first | decide | omega | assumption | trivial))) e_int r_I0) (e_op e_int (e_op e_int (e_var rfl) (r_I (by first | exact .inl (by decide) | exact .inr (by decide) | exact .inl (by omega) | exact .inr (by omega)))) r_I0) (r_I (by first | exact .inl (by decide) | exact .inr (by decide) | exact .inl (by omega) | exact .inr (by omega)))) e_int (r_I (by first | decide | omega | assumption | trivial))) e_int (r_I ⟨(by first | decide | omega | assumption | trivial), (by first | decide | omega | assumption | trivial)⟩)) (e_var rfl) (r_I (by first | decide | omega | assumption | trivial)))

/-! ### _law_number -/
-- needs: base
theorem c_law_number (T : Txt K mg) : Cal P w K mg base 2 "_law_number" ["cell", "k"] sp_law_number := by
  refine fn_P T.d_law_number sc_law_number (fun _ => rfl) fun f cdv A outer s H E hr => ⟨_, (pss_cons (ps_set (i := 2) sc_law_number.nd rfl (.inl rfl) (pc (c_law_mix T) hr (pa_cons (pv 0) (pa_cons (pv 1) (pa_cons pe_int pa_nil)))))
    (pss_cons (ps_if (pt_cmpR op_eq (pv 2) pe_int (nomark _))
    (pss_cons (ps_ret (pe_op op_sub (pe_op op_mod (pv 0) (pe_op op_add (pe_op op_mul pe_int (pe_op op_pow pe_int pe_int)) pe_int)) (pe_op op_pow pe_int pe_int)))
    pss_nil) pss_nil)
    (pss_cons (ps_if (pt_cmpR op_eq (pv 2) pe_int (nomark _))
    (pss_cons (ps_ret (pe_ix (kIxL K) (pe_lst (pa_cons (pe_op op_pow pe_int pe_int) (pa_cons (pe_un un_neg (pe_op op_pow pe_int pe_int)) (pa_cons pe_int (pa_cons (pe_un un_neg pe_int) pa_nil))))) (pc (c_law_mix T) hr (pa_cons (pv 0) (pa_cons (pe_op op_add (pv 1) pe_int) (pa_cons pe_int pa_nil)))) (fun _ _ => rfl)))
    pss_nil) pss_nil)
    (pss_cons (ps_ret (pe_op op_sub (pc (c_law_mix T) hr (pa_cons (pv 0) (pa_cons (pe_op op_add (pv 1) pe_int) (pa_cons pe_int pa_nil)))) pe_int))
    pss_nil)))), ?_⟩
  rintro ⟨c, k⟩ F hF hc
  try dsimp only [L2.cxOf]
  refine ss_set (E_law_mix (e_var rfl) (e_var rfl) e_int (by first | decide | omega | assumption | trivial)) ?_
  refine ss_if (t_test (e_op (e_var rfl) e_int r_eqI)) (fun h => ?_) (fun h => ?_)
  · have h : mix c k 9 = 0 := of_decide_eq_true h
    refine ss_assoc (ss_retIs (e_op (e_op (e_var rfl) (e_op (e_op e_int (e_op e_int e_int (r_I ⟨by decide, by decide, by decide⟩)) (r_I (by first | exact .inl (by decide) | exact .inr (by decide) | exact .inl (by omega) | exact .inr (by omega)))) e_int r_I0) (r_I (by first | decide | omega | assumption | trivial))) (e_op e_int e_int (r_I ⟨by decide, by decide, by decide⟩)) r_I0) ?_)
    show _ = tI (num c k)
    unfold num
    rw [if_pos h]
    rfl
  · have h0 : ¬ mix c k 9 = 0 := of_decide_eq_false h
    refine ss_next (ss_if (t_test (e_op (e_var rfl) e_int r_eqI)) (fun h => ?_) (fun h => ?_))
    · have h : mix c k 9 = 1 := of_decide_eq_true h
      have h1 := mix_lo (c := c) (k := k + 1) (m := 4) (by decide)
      have h2 := mix_hi (c := c) (k := k + 1) (m := 4) (by decide)
      refine ss_assoc (ss_retIs (e_op (e_lst (ds := num4.map .int) (ad_cons (e_op e_int e_int (r_I ⟨by decide, by decide, by decide⟩)) (ad_cons (e_un (e_op e_int e_int (r_I ⟨by decide, by decide, by decide⟩)) r_neg) (ad_cons e_int (ad_cons (e_un e_int r_neg) ad_nil)))) (by decide)) (E_law_mix (e_var rfl) (e_op (e_var rfl) e_int r_I0) e_int (by first | decide | omega | assumption | trivial)) (r_ixL (atI_Di h1 h2))) ?_)
      show _ = tI (num c k)
      unfold num
      rw [if_neg h0, if_pos h]
    · have h : ¬ mix c k 9 = 1 := of_decide_eq_false h
      refine ss_next (ss_retIs (e_op (E_law_mix (e_var rfl) (e_op (e_var rfl) e_int r_I0) e_int (by first | decide | omega | assumption | trivial)) e_int r_I0) ?_)
      show _ = tI (num c k)
      unfold num
      rw [if_neg h0, if_neg h]

/-! ### _law_line_by -/
-- needs: rows
theorem c_law_line_by (T : Txt K mg) : Cal P w K mg base 3 "_law_line_by" ["cell", "zero"] sp_law_line_by := by
  refine fn_O T.d_law_line_by sc_law_line_by (fun _ => rfl) fun f cdv A outer s H E hr => ⟨_, (pss_cons (ps_setLc (i := 2) (own := [("k", 3)]) (g := (gName 3)) (tt := tYes) rfl sc_law_line_by.nd rfl rfl (sw_true rfl rfl rfl (by decide +kernel)) (pi_range1 rfl T.z_range (pa_cons pe_int pa_nil)) (blkOk_by (N := n_law_line_by) (sc := defScope s_law_line_by) (by decide +kernel)) (fun _ _ _ _ _ => (pg_name (i := 3) sc_law_line_by.nd rfl (.inl rfl))) (fun _ _ _ _ _ => pts_nil) (fun _ _ _ _ _ => (pc (c_law_number T) hr (pa_cons (pv 0) (pa_cons (pe_op op_mul pe_int (pv 3)) pa_nil)))))
    (pss_cons (ps_for PassesOwn.never rfl (pi_range1 rfl T.z_range (pa_cons pe_int pa_nil)) (pg_name (i := 3) sc_law_line_by.nd rfl (.inl rfl))
    (pss_cons (ps_if (PW.pt (pw_or (pt_cmpR (kIn K) (pv 3) (pv 1) rfl) (pw_or1 (pt_cmpR op_eq (pc (c_law_mix T) hr (pa_cons (pv 0) (pa_cons (pe_op op_add pe_int (pv 3)) (pa_cons pe_int pa_nil)))) pe_int (nomark _)))))
    (pss_cons (ps_asg pe_int (pg_sub (pv 2) (pe_op op_add (pv 3) pe_int) set_list))
    pss_nil) pss_nil)
    pss_nil))
    (pss_cons (ps_ret (pv 2))
    pss_nil))), ?_⟩
  rintro ⟨c, zero⟩ F hF _
  refine ss_setO (o_lcI (fun k : Nat => num c (5 * (k : Int))) (w_range1 (a_cons e_int a_nil) (by decide) (by decide)) (by simp) fun i k hk => ⟨_, _, g_name, by simp, (E_law_number (e_var rfl) (e_op e_int (e_var rfl) (r_I (by first | exact .inl (by decide) | exact .inr (by decide) | exact .inl (by omega) | exact .inr (by omega)))) (by first | decide | omega | assumption | trivial))⟩) fun p _ hp => ?_
  rw [show (List.range (Int.toNat 9)).map (fun k : Nat => num c (5 * (k : Int))) = lby c zero 0 from lby_0 c zero]
  refine ss_for (γ := Unit) (w_range1 (a_cons e_int a_nil) (by decide) (by decide)) (fun _ _ => True) (fun _ _ => [some (tI c), some (tIs zero), some (tV (.ref p)), none]) (fun i _ => [cL p ((lby c zero i).map .int)]) () trivial
    ⟨.inr rfl, .inr rfl, .inr rfl, .inl rfl, trivial⟩ rfl ?_ fun _ _ => ss_retOwn rfl hp
  rintro i _ k hi _
  refine ⟨_, _, g_name, ?_⟩
  obtain rfl := range_at hi
  have hk : k < 8 := by have := (List.getElem?_eq_some_iff.mp hi).1; simpa using this
  refine ss_ifJ [some (tI c), some (tIs zero), some (tV (.ref p)), none] [cL p ((lby c zero (k + 1)).map .int)] (t_or (t_test (e_op (e_var rfl) (e_var rfl) r_inI)) (fun _ => (t_test (e_op (E_law_mix (e_var rfl) (e_op e_int (e_var rfl) r_I0) e_int (by first | decide | omega | assumption | trivial)) e_int r_eqI)))) (fun h => ?_) (fun h => ?_) (ss_nil fun σ H S s => ⟨(), trivial, s⟩)
  · have h : (k : Int) ∈ zero ∨ mix c (60 + (k : Int)) 3 = 0 := by simpa using h
    refine ss_setItem rfl e_int (e_op (e_var rfl) e_int r_I0) (n := k + 1) (by rw [List.length_map, lby_len, ixN_of (by omega) (by omega)]; rfl) ?_
    rw [← List.map_set, lby_set hk h]
    exact ss_nil fun σ H S s => s.weak ⟨.inr rfl, .inr rfl, .inr rfl, .inl rfl, trivial⟩
  · have h : ¬ ((k : Int) ∈ zero ∨ mix c (60 + (k : Int)) 3 = 0) := by simpa using h
    rw [← lby_keep hk h]
    exact ss_nil fun σ H S s => s.weak ⟨.inr rfl, .inr rfl, .inr rfl, .inl rfl, trivial⟩

/-! ### _law_whole -/
-- needs: base
theorem c_law_whole (T : Txt K mg) : Cal P w K mg base 1 "_law_whole" ["found"] sp_law_whole := by
  refine fn_P T.d_law_whole sc_law_whole (fun _ => rfl) fun f cdv A outer s H E hr => ⟨_, (pss_cons (ps_ret (pe_and (pe_callB (kIsi K) (by rfl) T.z_isinstance (by decide +kernel) (pa_cons (pv 0) (pa_cons (pe_bltn (v := .ty "int") (by rfl) T.z_int (by decide +kernel) rfl) pa_nil))) (pe_one (pe_not (pe_callB (kIsi K) (by rfl) T.z_isinstance (by decide +kernel) (pa_cons (pv 0) (pa_cons (pe_bltn (v := .ty "bool") (by rfl) T.z_bool (by decide +kernel) rfl) pa_nil)))))))
    pss_nil), ?_⟩
  rintro d F hF hc
  try dsimp only [L2.cxOf]
  refine ss_retIs (e_and (e_isi (e_var rfl) kit_int) (fun _ => (e_not (e_isi (e_var rfl) kit_bool)))) ?_
  cases d <;> rfl

/-! ### _law_shows -/
-- needs: clerk
theorem c_law_shows (T : Txt K mg) : Cal P w K mg base 1 "_law_shows" ["goal", "known", "whole", "weights"] sp_law_shows := by
  refine fn_P T.d_law_shows sc_law_shows (fun _ => rfl) fun f cdv A outer s H E hr => ⟨_, (pss_cons (ps_setLc (i := 4) (own := [("x", 7)]) (g := (gName 7)) (tt := tYes) rfl sc_law_shows.nd rfl rfl (sw_true rfl rfl rfl (by decide +kernel)) (kpList K (pv 0)) (blkOk_by (N := n_law_shows) (sc := defScope s_law_shows) (by decide +kernel)) (fun _ _ _ _ _ => (pg_name (i := 7) sc_law_shows.nd rfl (.inl rfl))) (fun _ _ _ _ _ => pts_nil) (fun _ _ _ _ _ => (pe_op op_mul (pv 2) (pv 7))))
    (pss_cons (ps_for PassesOwn.never rfl (kpZip K T.z_zip (pa_cons (pv 1) (pa_cons (pv 3) pa_nil))) (kgTup K 2 rfl (pgs_cons (pg_name (i := 5) sc_law_shows.nd rfl (.inl rfl)) (pgs_cons (pg_name (i := 6) sc_law_shows.nd rfl (.inr rfl)) pgs_nil)))
    (pss_cons (ps_setLc (i := 4) (own := [("a", 8), ("b", 9)]) (g := (gTup K 2 (gCons (gName 8) (gCons (gName 9) gNil)))) (tt := tYes) rfl sc_law_shows.nd rfl rfl (sw_true rfl rfl rfl (by decide +kernel)) (kpZip K T.z_zip (pa_cons (pv 4) (pa_cons (pv 5) pa_nil))) (blkOk_by (N := n_law_shows) (sc := defScope s_law_shows) (by decide +kernel)) (fun _ _ _ _ _ => (kgTup K 2 rfl (pgs_cons (pg_name (i := 8) sc_law_shows.nd rfl (.inl rfl)) (pgs_cons (pg_name (i := 9) sc_law_shows.nd rfl (.inl rfl)) pgs_nil)))) (fun _ _ _ _ _ => pts_nil) (fun _ _ _ _ _ => (pe_op op_sub (pv 8) (pe_op op_mul (pv 6) (pv 9)))))
    pss_nil))
    (pss_cons (ps_ret (pe_and (pe_cmpR (kEq K hr.units) (pe_slice (kSlL K) (pv 4) (po_some pe_int) po_none) (pe_op op_rep (pe_lst (pa_cons pe_int pa_nil)) pe_int) (nomark _)) (pe_one (pe_cmpR op_gt (pe_ix (kIxL K) (pv 4) pe_int (fun _ _ => rfl)) (pe_un un_neg (pv 2)) (nomark _)))))
    pss_nil))), ?_⟩
  rintro ⟨⟨g, ks⟩, wh, ws⟩ F hF ⟨⟨hg, hk, _⟩, hb⟩
  have hb : Sm (wh :: ws) := hb
  have hg : g.length = 9 := hg
  have hk : ∀ k ∈ ks, k.length = 9 := hk
  refine ss_setO (o_lcI (xs := g) (ty := tI) (fun x => wh * x) (w_map (w_list (e_var rfl)) rfl (fun _ => rfl)) (by omega) fun i b _ => ⟨_, _, g_name, by simp, e_op (e_var rfl) (e_var rfl) (r_I (.inl (hb wh List.mem_cons_self)))⟩) fun p _ hp => ?_
  refine ss_for (γ := Addr) (w_map (ys := ks.zip ws) (f := fun p : List Int × Int => (dIs p.1, PyData.int p.2)) (ty' := fun p => tTp [dIs p.1, .int p.2]) (w_zip (a_cons (e_var rfl) (a_cons (e_var rfl) a_nil))) (zip_map_line ks ws) (fun _ => rfl))
    (fun _ p => F.H p = none) (fun i p => [some (tIs g), some (tLl ks), some (tI wh), some (tIs ws), some (tV (.ref p)), none, none, none, none, none]) (fun i p => [cL p ((((ks.zip ws).take i).foldl (fun t p => zipAdd t p.1 (-p.2)) (g.map fun x => wh * x)).map .int)]) p hp (by repeat (first | exact trivial | refine ⟨.inr rfl, ?_⟩ | refine ⟨.inl rfl, ?_⟩)) (by rfl) ?_ ?_
  · rintro i p ⟨line, wt⟩ hi hp
    refine ⟨_, _, g_tup (gs_cons g_name (gs_cons g_name gs_nil)) rfl, ?_⟩
    have hlen : (((ks.zip ws).take i).foldl (fun t p => zipAdd t p.1 (-p.2)) (g.map fun x => wh * x)).length ≤ 1000 := by
      have h1 := fold_le (zs := ((ks.zip ws).take i).map fun p => (p.1, -p.2)) (t := g.map fun x => wh * x)
      rw [List.foldl_map, List.length_map] at h1
      exact Nat.le_trans h1 (by omega)
    generalize hT : ((ks.zip ws).take i).foldl (fun t p => zipAdd t p.1 (-p.2)) (g.map fun x => wh * x) = total at *
    refine ss_settle 4 rfl hp ?_
    have hy : wt ∈ ws := (List.of_mem_zip (List.mem_of_getElem? hi)).2
    refine ss_setO (o_lcI (xs := total.zip line) (ty := fun p : Int × Int => tTp [.int p.1, .int p.2]) (fun p : Int × Int => p.1 - wt * p.2) (w_map (w_zip (a_cons (e_var rfl) (a_cons (e_var rfl) a_nil))) (zip_map_int total line) (fun _ => rfl)) (by rw [List.length_zip]; omega) ?_) fun p' _ hp' => ?_
    · rintro j ⟨a, b⟩ hj
      exact ⟨_, _, g_tup (gs_cons g_name (gs_cons g_name gs_nil)) rfl, by simp, e_op (e_var rfl) (e_op (e_var rfl) (e_var rfl) (r_I (.inl (hb wt (List.mem_cons_of_mem _ hy))))) r_I0⟩
    · refine ss_nil fun σ H S s => ⟨p', hp', ?_⟩
      rw [foldl_take _ _ hi, hT]
      have e : zipAdd total line (-wt) = (total.zip line).map fun p => p.1 - wt * p.2 := by
        unfold zipAdd
        refine List.map_congr_left fun q _ => ?_
        rw [Int.neg_mul]
        rfl
      rw [e]
      exact s.weak (by repeat (first | exact trivial | refine ⟨.inr rfl, ?_⟩ | refine ⟨.inl rfl, ?_⟩))
  · intro p hp
    rw [List.take_length]
    show SS F _ _ [cL p ((restL g ks wh ws).map .int)] (retP F (tBo (goodRest (restL g ks wh ws) wh)))
    have r9 := rest_len (wh := wh) (ws := ws) hg hk
    generalize restL g ks wh ws = r at *
    refine ss_settle 4 rfl hp ?_
    refine ss_retIs (e_and (e_op (e_is (e_ofO (o_sl (e_var rfl) p_int p_none)) (by rw [cutD_tail, ← List.map_tail])) (e_is (e_ofO (o_rep1 e_int e_int (by first | decide | omega | assumption | trivial) (by first | decide | omega | assumption | trivial))) (T' := tIs (List.replicate 8 0)) rfl) (r_eqD (okd_ints _).shaped (okd_ints _).shaped)) (fun _ => e_op (e_op (e_var rfl) e_int (r_ixL (atI_Di (by decide) (by omega)))) (e_un (e_var rfl) r_neg) r_B0)) ?_
    rw [getD_head, eqv_ints]
    unfold goodRest
    rw [all_zero 8 (by rw [List.length_tail, r9])]

/-! ### _law_due -/
-- needs: clerk
theorem c_law_due (T : Txt K mg) : Cal P w K mg base 2 "_law_due" ["goal", "known"] sp_law_clerk := by
  refine fn_P T.d_law_due sc_law_due (fun _ => rfl) fun f cdv A outer s H E hr => ⟨_, (pss_cons (ps_set (i := 2) sc_law_due.nd rfl (.inl rfl) (pe_lst (pa_cons (pe_lst pa_nil) pa_nil)))
    (pss_cons (ps_for PassesOwn.never rfl (kpList K (pv 1)) (pg_name (i := 3) sc_law_due.nd rfl (.inl rfl))
    (pss_cons (ps_set (i := 2) sc_law_due.nd rfl (.inl rfl) (pe_op op_cat (pe_lc (own := [("row", 6)]) (g := (gName 6)) (tt := tYes) rfl sc_law_due.nd (kpList K (pv 2)) (blkOk_by (N := n_law_due) (sc := defScope s_law_due) (by decide +kernel)) (fun _ _ _ _ _ => (pg_name (i := 6) sc_law_due.nd rfl (.inl rfl))) (fun _ _ _ _ _ => pts_nil) (fun _ _ _ _ _ => (pe_op op_cat (pv 6) (pe_lst (pa_cons pe_int pa_nil))))) (pe_lc (own := [("row", 6)]) (g := (gName 6)) (tt := tYes) rfl sc_law_due.nd (kpList K (pv 2)) (blkOk_by (N := n_law_due) (sc := defScope s_law_due) (by decide +kernel)) (fun _ _ _ _ _ => (pg_name (i := 6) sc_law_due.nd rfl (.inl rfl))) (fun _ _ _ _ _ => pts_nil) (fun _ _ _ _ _ => (pe_op op_cat (pv 6) (pe_lst (pa_cons pe_int pa_nil)))))))
    pss_nil))
    (pss_cons (ps_for PassesOwn.never rfl (pi_range2 rfl T.z_range (pa_cons pe_int (pa_cons pe_int pa_nil))) (pg_name (i := 4) sc_law_due.nd rfl (.inl rfl))
    (pss_cons (ps_for PassesOwn.never rfl (kpList K (pv 2)) (pg_name (i := 5) sc_law_due.nd rfl (.inl rfl))
    (pss_cons (ps_if (pt_val (pc (c_law_shows T) hr (pa_cons (pv 0) (pa_cons (pv 1) (pa_cons (pv 4) (pa_cons (pv 5) pa_nil))))))
    (pss_cons (ps_ret (pe_tup (pa_cons (pv 4) (pa_cons (pv 5) pa_nil))))
    pss_nil) pss_nil)
    pss_nil))
    pss_nil))
    (pss_cons (ps_ret pe_non)
    pss_nil)))), ?_⟩
  rintro ⟨g, ks⟩ F hF ⟨ok, h16⟩
  have ok : DutyOk g ks := ok
  have h16 : ks.length ≤ 16 := h16
  show SS F _ _ _ (retP F (tD (dFound (clerkL g ks))))
  refine ss_set (e_lst (ad_cons (e_lst ad_nil (by simp)) ad_nil) (by simp)) ?_
  refine ss_for (γ := Unit) (w_list (e_var rfl)) (fun _ _ => True) (fun i _ => [some (tIs g), some (tLl ks), some (tLl (rowsL i)), none, none, none, none]) (fun _ _ => []) () trivial (by repeat (first | exact trivial | refine ⟨.inr rfl, ?_⟩ | refine ⟨.inl rfl, ?_⟩)) rfl ?_ ?_
  · rintro i _ d hi _
    have hi' : i < ks.length := by have := (List.getElem?_eq_some_iff.mp hi).1; rwa [List.length_map] at this
    have hl : (rowsL i).length ≤ 32768 := by rw [rows_n]; exact Nat.le_trans (Nat.pow_le_pow_right (by decide) (show i ≤ 15 by omega)) (by decide)
    have hr : ∀ r ∈ rowsL i, r.length ≤ 16 := fun r hr => by rw [(rows_in hr).1]; omega
    refine ⟨_, _, g_name, ?_⟩
    have cat : ∀ {r : List Int} {x : Int}, r.map PyData.int ++ [PyData.int x] = (r ++ [x]).map .int := by intros; simp
    refine ss_set (T := tLl (rowsL (i + 1))) (e_is (e_ofO (o_cat (e_ofO (o_lc0 (xs := rowsL i) (ty := tIs) (fun r => dIs (r ++ [0])) (w_map (w_list (e_var rfl)) rfl (fun _ => rfl)) (by omega) fun j r hj => ⟨_, _, g_name, by simp, e_is (e_ofO (o_cat (e_var rfl) (e_lst (ad_cons e_int ad_nil) (by simp)) (by simp; have := hr r (List.mem_of_getElem? hj); omega))) (by rw [cat])⟩))
      (e_ofO (o_lc0 (xs := rowsL i) (ty := tIs) (fun r => dIs (r ++ [1])) (w_map (w_list (e_var rfl)) rfl (fun _ => rfl)) (by omega) fun j r hj => ⟨_, _, g_name, by simp, e_is (e_ofO (o_cat (e_var rfl) (e_lst (ad_cons e_int ad_nil) (by simp)) (by simp; have := hr r (List.mem_of_getElem? hj); omega))) (by rw [cat])⟩)) (by simp; omega))) ?_) ?_
    · show _ = tLs (List.map dIs ((rowsL i).map (fun r => r ++ [0]) ++ (rowsL i).map (fun r => r ++ [1])))
      rw [List.map_append (f := dIs), List.map_map, List.map_map]
      rfl
    · exact ss_nil fun σ H S s => ⟨(), trivial, s.weak (by repeat (first | exact trivial | refine ⟨.inr rfl, ?_⟩ | refine ⟨.inl rfl, ?_⟩))⟩
  · rintro _ _
    rw [List.length_map]
    refine ss_for (γ := Unit) (w_range2 (a_cons e_int (a_cons e_int a_nil)) (by decide)) (fun i _ => ∀ w, w < i → noRow g ks w) (fun i _ => [some (tIs g), some (tLl ks), some (tLl (rowsL ks.length)), none, none, none, none]) (fun _ _ => []) () (fun _ z => absurd z (Nat.not_lt_zero _)) (by repeat (first | exact trivial | refine ⟨.inr rfl, ?_⟩ | refine ⟨.inl rfl, ?_⟩)) rfl ?_ ?_
    · rintro i _ x hi hno
      obtain rfl := range_at hi
      have hi4 : x < 4 := by have := (List.getElem?_eq_some_iff.mp hi).1; simpa using this
      refine ⟨_, _, g_name, ?_⟩
      refine ss_for (γ := Unit) (w_map (ys := rowsL ks.length) (ty' := tIs) (w_list (e_var rfl)) rfl (fun _ => rfl)) (fun j _ => ∀ n', n' < j → ∀ r', (rowsL ks.length)[n']? = some r' → showsB g ks (1 + (x : Int)) r' = false) (fun j _ => [some (tIs g), some (tLl ks), some (tLl (rowsL ks.length)), none, some (tI (1 + (x : Int))), none, none]) (fun _ _ => []) () (fun _ z => absurd z (Nat.not_lt_zero _)) (by repeat (first | exact trivial | refine ⟨.inr rfl, ?_⟩ | refine ⟨.inl rfl, ?_⟩)) rfl ?_ ?_
      · rintro j _ r hj hn
        obtain ⟨hbn, hbl⟩ := rows_in (List.mem_of_getElem? hj)
        have hs := shows_row (g := g) (w := x) (List.mem_of_getElem? hj)
        refine ⟨_, _, g_name, ?_⟩
        refine ss_if (t_is (t_B (E_law_shows (g := g) (ks := ks) (wh := 1 + (x : Int)) (ws := r) (e_var rfl) (e_var rfl) (e_var rfl) (e_var rfl) ⟨ok, fun z hz => ?_⟩)) hs.symm) (fun h => ?_) (fun h => ?_)
        · rcases List.mem_cons.mp hz with e | hz
          · subst e; omega
          · have := hbl z hz; omega
        · have hc : clerkL g ks = some (1 + (x : Int), r) := clerk_some hi4 hno hj hn h
          refine ss_assoc (ss_ret (e_is (e_tup (ad_cons (e_var rfl) (ad_cons (e_var rfl) ad_nil)) (by simp)) (T' := tD (dFound (clerkL g ks))) ?_) fun v σ H S s k => ⟨s.g, k⟩)
          rw [hc]
          rfl
        · refine ss_next (ss_nil fun σ H S s => ⟨(), fun n' hn' r' hr' => ?_, s.weak (by repeat (first | exact trivial | refine ⟨.inr rfl, ?_⟩ | refine ⟨.inl rfl, ?_⟩))⟩)
          by_cases e : n' < j
          · exact hn n' e r' hr'
          · obtain rfl : n' = j := by omega
            rw [hj] at hr'
            cases hr'
            exact h
      · intro _ hn
        rw [rows_n] at hn
        refine ss_nil fun σ H S s => ⟨(), fun w hw => ?_, s.weak (by repeat (first | exact trivial | refine ⟨.inr rfl, ?_⟩ | refine ⟨.inl rfl, ?_⟩))⟩
        by_cases e : w < x
        · exact hno w e
        · obtain rfl : w = x := by omega
          exact noRow_of hn
    · intro _ hno
      have hc : clerkL g ks = none := clerk_none fun w hw => hno w (by rw [List.length_range]; exact hw)
      rw [hc]
      exact ss_retP e_non

/-! ### _law_alike -/
-- needs: clerk
theorem c_law_alike (T : Txt K mg) : Cal P w K mg base 2 "_law_alike" ["found", "due"] sp_law_alike := by
  refine fn_P T.d_law_alike sc_law_alike (fun _ => rfl) fun f cdv A outer s H E hr => ⟨_, (pss_cons (ps_if (PW.pt (pw_or (pt_cmp (pc_isN (pv 1))) (pw_or1 (pt_cmp (pc_isN (pv 0))))))
    (pss_cons (ps_ret (pe_and (pe_cmp (pc_isN (pv 1))) (pe_one (pe_cmp (pc_isN (pv 0))))))
    pss_nil) pss_nil)
    (pss_cons (ps_if (PW.pt (pw_or (pt_not (pt_val (pe_callB (kIsi K) (by rfl) T.z_isinstance (by decide +kernel) (pa_cons (pv 0) (pa_cons (pe_bltn (v := .ty "tuple") (by rfl) T.z_tuple (by decide +kernel) rfl) pa_nil))))) (pw_or (pt_cmpR op_ne (pe_callB (kLen K) (by rfl) T.z_len PySem.boot_len (pa_cons (pv 0) pa_nil)) pe_int (nomark _)) (pw_or1 (pt_not (pt_val (pe_callB (kIsi K) (by rfl) T.z_isinstance (by decide +kernel) (pa_cons (pe_ix (kIxT K) (pv 0) pe_int (fun _ _ => rfl)) (pa_cons (pe_bltn (v := .ty "list") (by rfl) T.z_list (by decide +kernel) rfl) pa_nil)))))))))
    (pss_cons (ps_ret pe_bl)
    pss_nil) pss_nil)
    (pss_cons (ps_ret (pe_and (pc (c_law_whole T) hr (pa_cons (pe_ix (kIxT K) (pv 0) pe_int (fun _ _ => rfl)) pa_nil)) (pe_and (pe_callB (kAll K rfl) (by rfl) T.z_all (by decide +kernel) (pa_cons (pe_lc (own := [("x", 2)]) (g := (gName 2)) (tt := tYes) rfl sc_law_alike.nd (kpList K (pe_ix (kIxT K) (pv 0) pe_int (fun _ _ => rfl))) (blkOk_by (N := n_law_alike) (sc := defScope s_law_alike) (by decide +kernel)) (fun _ _ _ _ _ => (pg_name (i := 2) sc_law_alike.nd rfl (.inl rfl))) (fun _ _ _ _ _ => pts_nil) (fun _ _ _ _ _ => (pc (c_law_whole T) hr (pa_cons (pv 2) pa_nil)))) pa_nil)) (pe_one (pe_cmpR (kEq K hr.units) (pv 0) (pv 1) (nomark _))))))
    pss_nil))), ?_⟩
  rintro o F hF hl
  have hl : ∀ r, o = some r → r.2.length ≤ 1000 := hl
  refine ss_if (b := isNon (dFound o)) (t_is (t_or (t_B (e_isN (e_var rfl))) (fun _ => (t_B (e_isN (e_var rfl))))) (by cases isNon (dFound o) <;> rfl)) (fun h => ?_) (fun h => ?_)
  · refine ss_assoc (ss_retIs (e_and (e_isN (e_var rfl)) (fun _ => (e_isN (e_var rfl)))) ?_)
    rw [h]
    rfl
  · cases o with
    | none => cases h
    | some r =>
      obtain ⟨w, ws⟩ := r
      have hl : ws.length ≤ 1000 := hl _ rfl
      refine ss_next ?_
      show SS F _ [some (tD (dRow w ws)), some (tD (dRow w ws)), none] _ _
      refine ss_if (b := false) (t_is (t_or (t_not (t_B (e_isi (e_var rfl) kit_tuple))) (fun _ => (t_or (t_test (e_op (e_cb (a_cons (e_var rfl) a_nil) c_lenT) e_int r_neI)) (fun _ => (t_not (t_B (e_isi (e_op (e_var rfl) e_int (r_ixT (atI_nat (j := 1) rfl))) kit_list))))))) rfl) (fun h => (nomatch h)) (fun _ => ss_next ?_)
      refine ss_retIs (e_and (E_law_whole (e_op (e_var rfl) e_int (r_ixT (atI_nat (j := 0) rfl))) (by first | decide | omega | assumption | trivial)) (fun _ => e_and (e_cb (a_cons (e_ofO (o_lcB (xs := ws) (ty := tI) (fun x => isI (.int x)) (w_map (w_list (e_op (e_var rfl) e_int (r_ixT (atI_nat (j := 1) rfl)))) rfl (fun _ => rfl)) (by omega) fun i b hb => ⟨_, _, g_name, by simp, (E_law_whole (e_var rfl) (by first | decide | omega | assumption | trivial))⟩)) a_nil) c_all) (fun _ => e_op (e_var rfl) (e_var rfl) (r_eqD (okd_row w ws).shaped (okd_row w ws).shaped)))) ?_
      rw [eqv_same (okd_row w ws)]
      have : (ws.map fun x => isI (.int x)).all id = true := by
        rw [List.all_map]
        exact List.all_eq_true.mpr fun x _ => rfl
      rw [this]
      rfl

/-! ### law -/
-- needs: clerk
theorem c_law (l : PySem.W.OpenLaw) (T : Txt K mg) {fa : Addr} (hfa : mg "law" = some (.ref fa)) :
    ∃ fd : FuncData, (∀ (s : Shared) (v : Value), BindsTo s fd ⟨[v], []⟩ [("script", v)]) ∧ ∀ base : Heap, K.In base → base.Ns mainGlobals mg → FnOk l.prog w K mg base CX0 4 fa fd ["script"] (spLaw K) := by
  refine law_F hfa T.d_law sc_law fun base f cdv A outer s H E hr => ⟨_, (pss_cons (ps_set (i := 1) sc_law.nd rfl (.inl rfl) (pe_op op_mod (pc (c_law_cell_at T) hr (pa_cons (pv 0) (pa_cons pe_int pa_nil))) pe_int))
    (pss_cons (ps_set (i := 2) sc_law.nd rfl (.inl rfl) (pe_lst pa_nil))
    (pss_cons (ps_for PassesOwn.never rfl (pi_range1 rfl T.z_range (pa_cons (pv 1) pa_nil)) (pg_name (i := 3) sc_law.nd rfl (.inl rfl))
    (pss_cons (ps_set (i := 4) sc_law.nd rfl (.inr rfl) (pc (c_law_cell_at T) hr (pa_cons (pv 0) (pa_cons (pe_op op_add pe_int (pv 3)) pa_nil))))
    (pss_cons (ps_expr (kBM K (pe_bm PySem.F.plainAttrs_list PySem.F.slot_list_append PySem.F.type_list_append mt_append (pv 2) (pa_cons (pe_lc (own := [("i", 13)]) (g := (gName 13)) (tt := tYes) rfl sc_law.nd (pi_range1 rfl T.z_range (pa_cons pe_int pa_nil)) (blkOk_by (N := n_law) (sc := defScope s_law) (by decide +kernel)) (fun _ _ _ _ _ => (pg_name (i := 13) sc_law.nd rfl (.inl rfl))) (fun _ _ _ _ _ => pts_nil) (fun _ _ _ _ _ => (pe_op op_sub (pc (c_law_mix T) hr (pa_cons (pv 4) (pa_cons (pe_op op_mul pe_int (pv 13)) (pa_cons pe_int pa_nil)))) pe_int))) pa_nil))))
    pss_nil)))
    (pss_cons (ps_set (i := 5) sc_law.nd rfl (.inr rfl) (pe_op op_add pe_int (pe_op op_mod (pc (c_law_cell_at T) hr (pa_cons (pv 0) (pa_cons pe_int pa_nil))) pe_int)))
    (pss_cons (ps_set (i := 6) sc_law.nd rfl (.inl rfl) (pe_op op_rep (pe_lst (pa_cons pe_int pa_nil)) pe_int))
    (pss_cons (ps_for PassesOwn.never rfl (pi_range2 rfl T.z_range (pa_cons pe_int (pa_cons (pv 1) pa_nil))) (pg_name (i := 3) sc_law.nd rfl (.inl rfl))
    (pss_cons (ps_if (pt_cmpR op_eq (pc (c_law_mix T) hr (pa_cons (pc (c_law_cell_at T) hr (pa_cons (pv 0) (pa_cons pe_int pa_nil))) (pa_cons (pv 3) (pa_cons pe_int pa_nil)))) pe_int (nomark _))
    (pss_cons (ps_setLc (i := 6) (own := [("a", 14), ("b", 15)]) (g := (gTup K 2 (gCons (gName 14) (gCons (gName 15) gNil)))) (tt := tYes) rfl sc_law.nd rfl rfl (sw_true rfl rfl rfl (by decide +kernel)) (kpZip K T.z_zip (pa_cons (pv 6) (pa_cons (pe_ix (kIxL K) (pv 2) (pv 3) (fun _ _ => rfl)) pa_nil))) (blkOk_by (N := n_law) (sc := defScope s_law) (by decide +kernel)) (fun _ _ _ _ _ => (kgTup K 2 rfl (pgs_cons (pg_name (i := 14) sc_law.nd rfl (.inl rfl)) (pgs_cons (pg_name (i := 15) sc_law.nd rfl (.inl rfl)) pgs_nil)))) (fun _ _ _ _ _ => pts_nil) (fun _ _ _ _ _ => (pe_op op_add (pv 14) (pv 15))))
    pss_nil) pss_nil)
    pss_nil))
    (pss_cons (ps_set (i := 7) sc_law.nd rfl (.inl rfl) (pe_op op_sub (pe_op op_mod (pc (c_law_cell_at T) hr (pa_cons (pv 0) (pa_cons pe_int pa_nil))) (pe_op op_add (pv 5) pe_int)) pe_int))
    (pss_cons (ps_if (pt_cmpR op_eq (pe_op op_mod (pc (c_law_cell_at T) hr (pa_cons (pv 0) (pa_cons pe_int pa_nil))) pe_int) pe_int (nomark _))
    (pss_cons (ps_set (i := 6) sc_law.nd rfl (.inl rfl) (pc (c_law_line_by T) hr (pa_cons (pc (c_law_cell_at T) hr (pa_cons (pv 0) (pa_cons pe_int pa_nil))) (pa_cons (pe_lst pa_nil) pa_nil))))
    pss_nil) (pss_cons (ps_if (PW.pt (pw_and (pt_cmpR op_gt (pv 1) pe_int (nomark _)) (pw_and1 (pt_cmpR op_gt (pv 5) pe_int (nomark _)))))
    (pss_cons (ps_set (i := 8) sc_law.nd rfl (.inl rfl) (pv 6))
    (pss_cons (ps_setLc (i := 6) (own := [("i", 13)]) (g := (gName 13)) (tt := tYes) rfl sc_law.nd rfl rfl (sw_true rfl rfl rfl (by decide +kernel)) (pi_range1 rfl T.z_range (pa_cons pe_int pa_nil)) (blkOk_by (N := n_law) (sc := defScope s_law) (by decide +kernel)) (fun _ _ _ _ _ => (pg_name (i := 13) sc_law.nd rfl (.inl rfl))) (fun _ _ _ _ _ => pts_nil) (fun _ _ _ _ _ => (pe_op op_sub (pc (c_law_mix T) hr (pa_cons (pc (c_law_cell_at T) hr (pa_cons (pv 0) (pa_cons pe_int pa_nil))) (pa_cons (pe_op op_mul pe_int (pv 13)) (pa_cons pe_int pa_nil)))) pe_int)))
    (pss_cons (ps_asg (pe_lc (own := [("a", 14), ("b", 15)]) (g := (gTup K 2 (gCons (gName 14) (gCons (gName 15) gNil)))) (tt := tYes) rfl sc_law.nd (kpZip K T.z_zip (pa_cons (pv 6) (pa_cons (pv 8) pa_nil))) (blkOk_by (N := n_law) (sc := defScope s_law) (by decide +kernel)) (fun _ _ _ _ _ => (kgTup K 2 rfl (pgs_cons (pg_name (i := 14) sc_law.nd rfl (.inl rfl)) (pgs_cons (pg_name (i := 15) sc_law.nd rfl (.inl rfl)) pgs_nil)))) (fun _ _ _ _ _ => pts_nil) (fun _ _ _ _ _ => (pe_op op_sub (pe_op op_mul (pv 5) (pv 14)) (pv 15)))) (pg_sub (pv 2) pe_int set_list))
    (pss_cons (ps_asg (pe_op op_add (pe_ix (kIxL K) (pe_ix (kIxL K) (pv 2) pe_int (fun _ _ => rfl)) pe_int (fun _ _ => rfl)) (pv 7)) (pg_sub (pe_ix (kIxL K) (pv 2) pe_int (fun _ _ => rfl)) pe_int set_list))
    pss_nil)))) (pss_cons (ps_asg (pe_op op_sub (pe_op op_add (pe_ix (kIxL K) (pv 6) pe_int (fun _ _ => rfl)) pe_int) (pv 7)) (pg_sub (pv 6) pe_int set_list))
    pss_nil))
    pss_nil))
    (pss_cons (ps_set (i := 9) sc_law.nd rfl (.inl rfl) (pe_tup (pa_cons (pe_callTy (kList K) (by rfl) T.z_list (by decide +kernel) (pa_cons (pv 6) pa_nil)) (pa_cons (pe_lc (own := [("line", 12)]) (g := (gName 12)) (tt := tYes) rfl sc_law.nd (kpList K (pv 2)) (blkOk_by (N := n_law) (sc := defScope s_law) (by decide +kernel)) (fun _ _ _ _ _ => (pg_name (i := 12) sc_law.nd rfl (.inl rfl))) (fun _ _ _ _ _ => pts_nil) (fun _ _ _ _ _ => (pe_callTy (kList K) (by rfl) T.z_list (by decide +kernel) (pa_cons (pv 12) pa_nil)))) pa_nil))))
    (pss_cons (ps_set (i := 10) sc_law.nd rfl (.inl rfl) (pc (c_law_due T) hr (pa_cons (pv 6) (pa_cons (pv 2) pa_nil))))
    (pss_cons (ps_set (i := 11) sc_law.nd rfl (.inl rfl) (pc (c_sought T) hr (pa_cons (pv 9) pa_nil)))
    (pss_cons (ps_if (pt_not (pt_val (pc (c_law_alike T) hr (pa_cons (pv 11) (pa_cons (pv 10) pa_nil)))))
    (pss_cons (ps_ret pe_bl)
    pss_nil) pss_nil)
    (pss_cons (ps_if (pt_cmp (pc_notN (pv 11)))
    (pss_cons (ps_expr (kBM K (pe_bm PySem.F.plainAttrs_list PySem.F.slot_list_append PySem.F.type_list_append mt_append (pe_ix (kIxT K) (pv 11) pe_int (fun _ _ => rfl)) (pa_cons pe_int pa_nil))))
    pss_nil) pss_nil)
    (pss_cons (ps_ret (pe_and (pc (c_law_alike T) hr (pa_cons (pc (c_sought T) hr (pa_cons (pv 9) pa_nil)) (pa_cons (pv 10) pa_nil))) (pe_one (pe_cmpR (kEq K hr.units) (pv 9) (pe_tup (pa_cons (pv 6) (pa_cons (pv 2) pa_nil))) (nomark _)))))
    pss_nil)))))))))))))), ?_⟩
  rintro ns F hF hlen
  have fH : ∀ {q : Addr}, F.H q = none → F.H q = none := fun h => h
  refine ss_set (e_op (E_law_cell_at (e_var rfl) e_int (by first | decide | omega | assumption | trivial)) e_int (r_I (by first | decide | omega | assumption | trivial))) ?_
  have hm : 0 ≤ cellAt ns 0 % 5 ∧ cellAt ns 0 % 5 ≤ 4 := by omega
  generalize cellAt ns 0 % 5 = many at hm
  refine ss_setO (o_lst ad_nil (by decide)) fun p _ hp => ?_
  refine ss_for (γ := Unit) (w_range1 (a_cons (e_var rfl) a_nil) (by omega) (by omega)) (fun _ _ => True) (fun _ _ => [some (tScr K ns), some (tI many), some (tV (.ref p)), none, none, none, none, none, none, none, none, none, none, none, none, none]) (fun i _ => [cL p (((List.range i).map fun k : Nat => (List.range 9).map fun i : Nat => mix (cellAt ns (1 + (k : Int))) (4 * (i : Int)) 5 - 2).map dIs)]) () trivial (by repeat (first | exact trivial | refine ⟨.inr rfl, ?_⟩ | refine ⟨.inl rfl, ?_⟩)) rfl ?_ ?_
  · rintro i _ j hi _
    refine ⟨_, _, g_name, ?_⟩
    obtain rfl := range_at hi
    have hj : j < many.toNat := by have := (List.getElem?_eq_some_iff.mp hi).1; simpa using this
    refine ss_set (E_law_cell_at (e_var rfl) (e_op e_int (e_var rfl) r_I0) (by first | decide | omega | assumption | trivial)) ?_
    refine ss_app rfl (e_ofO (o_lcI (fun i : Nat => mix (cellAt ns (1 + (j : Int))) (4 * (i : Int)) 5 - 2) (w_range1 (a_cons e_int a_nil) (by decide) (by decide)) (by simp) fun i k hk => ⟨_, _, g_name, by simp, (e_op (E_law_mix (e_var rfl) (e_op e_int (e_var rfl) (r_I (by first | exact .inl (by decide) | exact .inr (by decide) | exact .inl (by omega) | exact .inr (by omega)))) e_int (by first | decide | omega | assumption | trivial)) e_int r_I0)⟩)) (by simp; omega) ?_ rfl
    refine ss_nil fun σ H S s => ⟨(), trivial, ?_⟩
    rw [show List.range (j + 1) = List.range j ++ [j] from List.range_succ, List.map_append, List.map_append]
    exact s.weak (by repeat (first | exact trivial | refine ⟨.inr rfl, ?_⟩ | refine ⟨.inl rfl, ?_⟩))
  intro _ _
  have hk9 : ∀ k ∈ (List.range (List.range many.toNat).length).map (fun k : Nat => (List.range 9).map fun i : Nat => mix (cellAt ns (1 + (k : Int))) (4 * (i : Int)) 5 - 2), k.length = 9 := fun k hk => by
    obtain ⟨j, _, rfl⟩ := List.mem_map.mp hk
    simp
  have hkn : ((List.range (List.range many.toNat).length).map (fun k : Nat => (List.range 9).map fun i : Nat => mix (cellAt ns (1 + (k : Int))) (4 * (i : Int)) 5 - 2)).length = many.toNat := by simp
  generalize (List.range (List.range many.toNat).length).map (fun k : Nat => (List.range 9).map fun i : Nat => mix (cellAt ns (1 + (k : Int))) (4 * (i : Int)) 5 - 2) = ks at hk9 hkn
  refine ss_set (e_op e_int (e_op (E_law_cell_at (e_var rfl) e_int (by first | decide | omega | assumption | trivial)) e_int (r_I (by first | decide | omega | assumption | trivial))) r_I0) ?_
  have hwh : 1 ≤ 1 + cellAt ns 5 % 4 ∧ 1 + cellAt ns 5 % 4 ≤ 4 := by omega
  generalize 1 + cellAt ns 5 % 4 = wh at hwh
  refine ss_setO (o_rep1 e_int e_int (by decide) (by decide)) fun q0 _ hq0 => ?_
  refine ss_for (γ := Addr × List Int) (w_range2 (a_cons e_int (a_cons (e_var rfl) a_nil)) (by omega)) (fun _ y => F.H y.1 = none ∧ y.2.length = 9) (fun _ y => [some (tScr K ns), some (tI many), some (tV (.ref p)), none, none, some (tI wh), some (tV (.ref y.1)), none, none, none, none, none, none, none, none, none]) (fun _ y => [cL y.1 (y.2.map .int), cL p (ks.map dIs)]) (q0, List.replicate 9 0) ⟨hq0, rfl⟩ (by repeat (first | exact trivial | refine ⟨.inr rfl, ?_⟩ | refine ⟨.inl rfl, ?_⟩)) (by simp) ?_ ?_
  · rintro i ⟨q, gl⟩ j hi ⟨hq, hg⟩
    obtain rfl := range_at hi
    have hj : (j : Int) < many - 1 := by have := (List.getElem?_eq_some_iff.mp hi).1; rw [List.length_range] at this; omega
    refine ⟨_, _, g_name, ?_⟩
    refine ss_if (t_test (e_op (E_law_mix (E_law_cell_at (e_var rfl) e_int (by first | decide | omega | assumption | trivial)) (e_var rfl) e_int (by first | decide | omega | assumption | trivial)) e_int r_eqI)) (fun h => ?_) (fun h => ?_)
    · refine ss_settle 6 rfl hq ?_
      refine ss_assoc (ss_setO (o_lcI (xs := gl.zip (ks.getD (j + 1) [])) (ty := fun p : Int × Int => tTp [.int p.1, .int p.2]) (fun p : Int × Int => p.1 + p.2) (w_map (w_zip (a_cons (e_var rfl) (a_cons (e_ixO (ds := ks.map dIs) rfl (.head _) (e_var rfl) (d := dIs (ks.getD (j + 1) [])) ?_) a_nil))) (zip_map_int _ _) (fun _ => rfl)) (by rw [List.length_zip]; have : gl.length = 9 := hg; omega) ?_) fun r _ hr => ?_)
      · refine atI_of (j := j + 1) (by omega) ?_
        rw [List.getElem?_map, List.getD_eq_getElem?_getD, List.getElem?_eq_getElem (by omega)]
        rfl
      · rintro j ⟨a, b⟩ hj
        exact ⟨_, _, g_tup (gs_cons g_name (gs_cons g_name gs_nil)) rfl, by simp, (e_op (e_var rfl) (e_var rfl) r_I0)⟩
      · refine ss_next (ss_nil fun σ H S s => ⟨(r, (gl.zip (ks.getD (j + 1) [])).map fun p => p.1 + p.2), ⟨hr, ?_⟩, s.weak (by repeat (first | exact trivial | refine ⟨.inr rfl, ?_⟩ | refine ⟨.inl rfl, ?_⟩))⟩)
        have h9 : (ks.getD (j + 1) []).length = 9 := by
          rw [List.getD_eq_getElem?_getD, List.getElem?_eq_getElem (by omega)]
          exact hk9 _ (List.getElem_mem _)
        have hg : gl.length = 9 := hg
        rw [List.length_map, List.length_zip, hg, h9]
        rfl
    · exact ss_next (ss_nil fun σ H S s => ⟨(q, gl), ⟨hq, hg⟩, s.weak (by repeat (first | exact trivial | refine ⟨.inr rfl, ?_⟩ | refine ⟨.inl rfl, ?_⟩))⟩)
  rintro ⟨q, gl⟩ ⟨hq, hg⟩
  have hq : F.H q = none := hq
  have hg : gl.length = 9 := hg
  dsimp only
  refine ss_set (e_op (e_op (E_law_cell_at (e_var rfl) e_int (by first | decide | omega | assumption | trivial)) (e_op (e_var rfl) e_int r_I0) (r_I (by omega))) e_int r_I0) ?_
  generalize cellAt ns 9 % (wh + 3) - 1 = near
  refine ss_ifE (γ := List Int × List (List Int)) (fun y => y.1.length = 9 ∧ (∀ k ∈ y.2, k.length = 9) ∧ y.2.length ≤ 4) (fun y => [some (tScr K ns), none, some (tLl y.2), none, none, none, some (tIs y.1), none, none, none, none, none, none, none, none, none]) (fun _ => []) (t_test (e_op (e_op (E_law_cell_at (e_var rfl) e_int (by first | decide | omega | assumption | trivial)) e_int (r_I (by first | decide | omega | assumption | trivial))) e_int r_eqI)) (fun h => ?_) (fun h => ?_) ?_
  · refine ss_forget (ss_set (e_ofO (O_law_line_by (E_law_cell_at (e_var rfl) e_int (by first | decide | omega | assumption | trivial)) (e_lst (ds := [].map .int) ad_nil (by decide)))) (ss_settle 2 rfl hp ?_))
    exact ss_nil fun σ H S s => ⟨(lineBy (cellAt ns 8) [], ks), ⟨lby_len _ _ 8, hk9, by show ks.length ≤ 4; omega⟩, s.weak (by repeat (first | exact trivial | refine ⟨.inr rfl, ?_⟩ | refine ⟨.inl rfl, ?_⟩))⟩
  · refine ss_if (b := decide (0 < many) && decide (1 < wh)) (t_is (t_and (t_test (e_op (e_var rfl) e_int r_B0)) (fun _ => (t_test (e_op (e_var rfl) e_int r_B0)))) (by simp)) (fun h => ?_) (fun h => ?_)
    · have hmany : 0 < many := by simp at h; exact h.1
      obtain ⟨k0, kt, rfl⟩ : ∃ k0 kt, ks = k0 :: kt := by
        cases ks with
        | nil => simp at hkn; omega
        | cons a b => exact ⟨a, b, rfl⟩
      refine ss_assoc (ss_set (e_var rfl) ?_)
      refine ss_settle 8 rfl hq ?_
      refine ss_set (e_ofO (o_lcI (fun i : Nat => mix (cellAt ns 8) (4 * (i : Int)) 5 - 2) (w_range1 (a_cons e_int a_nil) (by decide) (by decide)) (by simp) fun i k hk => ⟨_, _, g_name, by simp, (e_op (E_law_mix (E_law_cell_at (e_var rfl) e_int (by first | decide | omega | assumption | trivial)) (e_op e_int (e_var rfl) (r_I (by first | exact .inl (by decide) | exact .inr (by decide) | exact .inl (by omega) | exact .inr (by omega)))) e_int (by first | decide | omega | assumption | trivial)) e_int r_I0)⟩)) ?_
      have g29 : ((List.range (Int.toNat 9)).map fun i : Nat => mix (cellAt ns 8) (4 * (i : Int)) 5 - 2).length = 9 := by simp
      generalize ((List.range (Int.toNat 9)).map fun i : Nat => mix (cellAt ns 8) (4 * (i : Int)) 5 - 2) = g2 at g29
      refine ss_cellV ?_
      refine ss_setItemM (n := 0) (Ts := (k0 :: kt).map dIs |>.map tD) (m_o (o_lcI (xs := g2.zip gl) (ty := fun p : Int × Int => tTp [.int p.1, .int p.2]) (fun p : Int × Int => wh * p.1 - p.2) (w_map (w_zip (a_cons (e_var rfl) (a_cons (e_var rfl) a_nil))) (zip_map_int _ _) (fun _ => rfl)) (by rw [List.length_zip]; omega) fun j ⟨a, b⟩ hj => ⟨_, _, g_tup (gs_cons g_name (gs_cons g_name gs_nil)) rfl, by simp, e_op (e_op (e_var rfl) (e_var rfl) (r_I (.inl (by omega)))) (e_var rfl) r_I0⟩)) rfl (fun _ _ => e_int) (fun r => _) (fun _ => .there .here) (by simp) fun r hr0 hr => ?_
      have hr : F.H r = none := hr r List.mem_cons_self
      have rn : ((g2.zip gl).map fun p : Int × Int => wh * p.1 - p.2).length = 9 := by rw [List.length_map, List.length_zip, g29, hg]; rfl
      generalize ((g2.zip gl).map fun p : Int × Int => wh * p.1 - p.2) = rs at rn
      refine ss_setItemE (n := 0) (ds := rs.map .int) (p := r) (Cr := [cLV p (tV (.ref r) :: (kt.map dIs).map tD)]) (d := .int (rs.getD 0 0 + near)) (e_op (e_ixE (p := r) (e_ixV (p := p) (Ts := tV (.ref r) :: (kt.map dIs).map tD) (n := 0) (e_var rfl) (.head _) e_int rfl) (.tail _ (.head _)) e_int (atI_Di (by decide) (by omega))) (e_var rfl) r_I0) (e_ixV (p := p) (Ts := tV (.ref r) :: (kt.map dIs).map tD) (n := 0) (e_var rfl) (.head _) e_int rfl) e_int (.there .here) (by rw [List.length_map, rn]; rfl) ?_
      rw [← List.map_set]
      have rn2 : (rs.set 0 (rs.getD 0 0 + near)).length = 9 := by rw [List.length_set, rn]
      generalize rs.set 0 (rs.getD 0 0 + near) = r2 at rn2
      refine ss_setl (cs := [cL r (r2.map .int), cLV p (tV (.ref r) :: (kt.map dIs).map tD)]) (T := tV (.ref p)) (T' := tLl (r2 :: kt)) 2 (.cons .here (.cons .here .nil)) rfl ?_ ?_ ?_
      · intro S v hc hv
        obtain ⟨o1, q1, us, rfl, q2⟩ := hc _ List.mem_cons_self
        obtain ⟨o2, q3, vs, rfl, q4⟩ := hc _ (List.mem_cons_of_mem _ List.mem_cons_self)
        have hv : v = .ref p := hv
        subst hv
        match vs, q4 with
        | v0 :: vs, q4 =>
          have h0 : v0 = .ref r := q4.1
          subst h0
          exact .lst q3 (.cons (.lst q1 q2) (Tys.data q4.2))
      · intro c hc
        rcases List.mem_cons.mp hc with e | hc
        · subst e; exact hr
        · rw [List.mem_singleton.mp hc]; exact hp
      · refine ss_next (ss_nil fun σ H S s => ⟨(g2, r2 :: kt), ⟨g29, fun k hk => ?_, ?_⟩, s.weak (by repeat (first | exact trivial | refine ⟨.inr rfl, ?_⟩ | refine ⟨.inl rfl, ?_⟩))⟩)
        · rcases List.mem_cons.mp hk with e | hk
          · subst e; exact rn2
          · exact hk9 k (List.mem_cons_of_mem _ hk)
        · show (r2 :: kt).length ≤ 4
          have : (k0 :: kt).length = many.toNat := hkn
          simp only [List.length_cons] at this ⊢
          omega
    · refine ss_setItem (n := 0) rfl (e_op (e_op (e_ixO rfl (.head _) e_int (atI_Di (by decide) (by omega))) e_int r_I0) (e_var rfl) r_I0) e_int (by rw [List.length_map, hg]; rfl) ?_
      rw [← List.map_set]
      refine ss_settle 6 rfl hq (ss_settle 2 rfl hp (ss_next (ss_nil fun σ H S s => ⟨(gl.set 0 (gl.getD (Int.toNat 0) 0 + 1 - near), ks), ⟨by rw [List.length_set, hg], hk9, by show ks.length ≤ 4; omega⟩, s.weak (by repeat (first | exact trivial | refine ⟨.inr rfl, ?_⟩ | refine ⟨.inl rfl, ?_⟩))⟩)))
  rintro ⟨g, k2⟩ ⟨h9, hk, hn⟩
  have h9 : g.length = 9 := h9
  have hk : ∀ k ∈ k2, k.length = 9 := hk
  have hn : k2.length ≤ 4 := hn
  have ok : DutyOk g k2 := ⟨h9, hk, by omega⟩
  have cs := clerk_small (g := g) (ks := k2) (by omega)
  refine ss_set (e_tup (ds := [dIs g, dLs k2]) (ad_cons (e_ofO (o_cb (a_cons (e_var rfl) a_nil) c_listL)) (ad_cons (e_ofO (o_lc0 (xs := k2) (ty := tIs) dIs (w_map (w_list (e_var rfl)) rfl (fun _ => rfl)) (by omega) fun i l hl => ⟨_, _, g_name, by simp, (e_ofO (o_cb (a_cons (e_var rfl) a_nil) c_listL))⟩)) ad_nil)) (by simp)) ?_
  refine ss_set (E_law_clerk (g := g) (ks := k2) (e_var rfl) (e_var rfl) ⟨ok, by omega⟩) ?_
  refine ss_setM (M_sought (g := g) (ks := k2) (e_var rfl) ⟨ok, by omega⟩) fun r _ hr => ?_
  refine ss_if (b := false) (t_is (t_not (t_B (V_law_alike (o := clerkL g k2) (e_seen (cs := cFound (clerkL g k2) r) (T := tFound (clerkL g k2) r) (e_var rfl) (Cr := []) ?_ (stl_found _ r)) (e_var rfl) cs))) rfl) (fun h => (nomatch h)) (fun _ => ss_next ?_)
  · cases clerkL g k2 with
    | none => exact .nil
    | some _ => exact .cons .here .nil
  refine ss_ifJ [some (tScr K ns), none, some (tLl k2), none, none, none, some (tIs g), none, none, some (tD (dDuty g k2)), some (tD (dFound (clerkL g k2))), none, none, none, none, none] [] (b := !isNon (dFound (clerkL g k2))) ?_ (fun h => ?_) (fun h => ?_) ?_
  · cases hc : clerkL g k2 with
    | none => exact t_B (e_notN (e_var rfl))
    | some x => exact t_B (e_notTV (Ts := [tI x.1, tV (.ref r)]) (e_var rfl))
  · cases hc : clerkL g k2 with
    | none => rw [hc] at h; cases h
    | some x =>
      refine ss_appE (p := r) (ds := x.2.map .int) (e_op (e_var rfl) e_int (r_ixTV (n := 1) (Ts := [tI x.1, tV (.ref r)]) rfl)) e_int (by rw [List.length_map]; exact Nat.lt_of_le_of_lt (cs x hc) (by decide)) ?_ rfl
      exact ss_forget (ss_nil fun σ H S s => s.weak (by repeat (first | exact trivial | refine ⟨.inr rfl, ?_⟩ | refine ⟨.inl rfl, ?_⟩)))
  · cases hc : clerkL g k2 with
    | none => exact ss_nil fun σ H S s => s.weak (by repeat (first | exact trivial | refine ⟨.inr rfl, ?_⟩ | refine ⟨.inl rfl, ?_⟩))
    | some x => rw [hc] at h; cases h
  · refine ss_retIs (e_and (E_law_alike (o := clerkL g k2) (E_sought (g := g) (ks := k2) (e_var rfl) ⟨ok, by omega⟩) (e_var rfl) cs) (fun _ => e_op (e_var rfl) (e_tup (ds := [dIs g, dLs k2]) (ad_cons (e_var rfl) (ad_cons (e_var rfl) ad_nil)) (by simp)) (r_eqD (okd_duty g k2).shaped (okd_duty g k2).shaped))) ?_
    rw [eqv_same (okd_duty g k2)]
    rfl

end
end Sw
open PySem PySem.W PyProof.Rows
set_option maxRecDepth 100000 in
set_option maxHeartbeats 0 in
theorem PySem.Challenge.cw_swornhall_k06_the_clerk_holds : PySem.Challenge.rw_swornhall_k06_the_clerk.Holds := by
  w_on; o_law; k_head; (case hw => w_witness2)
  k_fill
  refine Sw.law_walk (l := PySem.Challenge.rw_swornhall_k06_the_clerk) (k := 4) rfl rfl ⟨rfl, by decide, by decide⟩ (fun w h Y => PySem.W.kIn_of Y) ?F
  case F =>
    intro w mg fa h KX G hmg
    refine Sw.c_law PySem.Challenge.rw_swornhall_k06_the_clerk ?T hmg
    refine ⟨?_, ?_, ?_, ?_, ?_, ?_, ?_, ?_, ?_, ?_, ?_, ?_, ?_, ?_, ?_, ?_, ?_, ?_, ?_, ?_, ?_, ?_, ?_⟩
    · refine' Sw.def_mk KX G ?a ?l ?c ?k (fun _ _ _ _ _ _ us hl => match us, hl with | [_, _], _ => rfl)
      (case a => k_is); (case l => k_is); (case c => k_is); (case k => k_is)
    · refine' Sw.def_mk KX G ?a ?l ?c ?k (fun _ _ _ _ _ _ us hl => match us, hl with | [_, _], _ => rfl)
      (case a => k_is); (case l => k_is); (case c => k_is); (case k => k_is)
    · refine' Sw.def_mk KX G ?a ?l ?c ?k (fun _ _ _ _ _ _ us hl => match us, hl with | [_, _], _ => rfl)
      (case a => k_is); (case l => k_is); (case c => k_is); (case k => k_is)
    · refine' Sw.def_mk KX G ?a ?l ?c ?k (fun _ _ _ _ _ _ us hl => match us, hl with | [_], _ => rfl)
      (case a => k_is); (case l => k_is); (case c => k_is); (case k => k_is)
    · refine' Sw.def_mk KX G ?a ?l ?c ?k (fun _ _ _ _ _ _ us hl => match us, hl with | [_, _], _ => rfl)
      (case a => k_is); (case l => k_is); (case c => k_is); (case k => k_is)
    · refine' Sw.def_mk KX G ?a ?l ?c ?k (fun _ _ _ _ _ _ us hl => match us, hl with | [_, _, _], _ => rfl)
      (case a => k_is); (case l => k_is); (case c => k_is); (case k => k_is)
    · refine' Sw.def_mk KX G ?a ?l ?c ?k (fun _ _ _ _ _ _ us hl => match us, hl with | [_, _], _ => rfl)
      (case a => k_is); (case l => k_is); (case c => k_is); (case k => k_is)
    · refine' Sw.def_mk KX G ?a ?l ?c ?k (fun _ _ _ _ _ _ us hl => match us, hl with | [_, _], _ => rfl)
      (case a => k_is); (case l => k_is); (case c => k_is); (case k => k_is)
    · refine' Sw.def_mk KX G ?a ?l ?c ?k (fun _ _ _ _ _ _ us hl => match us, hl with | [_], _ => rfl)
      (case a => k_is); (case l => k_is); (case c => k_is); (case k => k_is)
    · refine' Sw.def_mk KX G ?a ?l ?c ?k (fun _ _ _ _ _ _ us hl => match us, hl with | [_, _, _, _], _ => rfl)
      (case a => k_is); (case l => k_is); (case c => k_is); (case k => k_is)
    · refine' Sw.def_mk KX G ?a ?l ?c ?k (fun _ _ _ _ _ _ us hl => match us, hl with | [_, _], _ => rfl)
      (case a => k_is); (case l => k_is); (case c => k_is); (case k => k_is)
    · refine' Sw.def_mk KX G ?a ?l ?c ?k (fun _ _ _ _ _ _ us hl => match us, hl with | [_, _], _ => rfl)
      (case a => k_is); (case l => k_is); (case c => k_is); (case k => k_is)
    · refine' Sw.def_mk KX G ?a ?l ?c ?k (fun _ _ _ _ _ _ us hl => match us, hl with | [_], _ => rfl)
      (case a => k_is); (case l => k_is); (case c => k_is); (case k => k_is)
    · refine' PySem.W.mg_none_of KX G ?z
      (case z => k_is)
    · refine' PySem.W.mg_none_of KX G ?z
      (case z => k_is)
    · refine' PySem.W.mg_none_of KX G ?z
      (case z => k_is)
    · refine' PySem.W.mg_none_of KX G ?z
      (case z => k_is)
    · refine' PySem.W.mg_none_of KX G ?z
      (case z => k_is)
    · refine' PySem.W.mg_none_of KX G ?z
      (case z => k_is)
    · refine' PySem.W.mg_none_of KX G ?z
      (case z => k_is)
    · refine' PySem.W.mg_none_of KX G ?z
      (case z => k_is)
    · refine' PySem.W.mg_none_of KX G ?z
      (case z => k_is)
    · refine' PySem.W.mg_none_of KX G ?z
      (case z => k_is)

