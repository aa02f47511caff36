import PyProof.Rows.All
import Wide.All
import OpenK.AllK
import Wide.FinOn
import HandS.ForMost
import HandS.ForExc
import HandS.TupAny
import HandS.Deep
import HandS.Style
import HandS.EndBits
import PySem.Challenge.RW_neverregret_k05_marks_cut_and_joined
set_option Elab.async false
set_option linter.all false
set_option maxRecDepth 100000
set_option maxHeartbeats 4000000
/-! N1: pure data, the ghost world, how values and heaps bear data. -/
namespace Nv
open PySem PySem.Spec PyProof.Rows L2

/-- pure data -/
inductive D where
  | non | bl (b : Bool) | int (i : Int) | str (s : Str) | tup (ds : List D) | lst (ds : List D) | ref (n : Nat) | obj (c : Nat) (ds : List D) | scr (ns : List Int)
  deriving Inhabited

mutual
def D.py : D → Option PyData
  | .non => some .none
  | .bl b => some (.bool b)
  | .int i => some (.int i)
  | .str s => some (.str s)
  | .tup ds => (D.pyAll ds).map PyData.tuple
  | .lst ds => (D.pyAll ds).map PyData.list
  | .ref _ => none
  | .obj _ _ => none
  | .scr _ => none
def D.pyAll : List D → Option (List PyData)
  | [] => some []
  | d :: ds => match D.py d, D.pyAll ds with
    | some a, some as => some (a :: as)
    | _, _ => none
end

/-- the ghost world: what is frozen, where the shared mutable objects stand -/
structure Wd where
  F : Hp
  rho : List Addr
/-- what is fixed: the written part, the classes of own frozen objects -/
structure Sg where
  K : PySem.W.Frag
  cl : Nat → Addr × List Str

mutual
inductive Dp (G : Sg) (W : Wd) : V → D → Prop
  | non : Dp G W .non .non
  | bl (b : Bool) : Dp G W (.bl b) (.bl b)
  | int (i : Int) : Dp G W (.int i) (.int i)
  | str (x : Str) : Dp G W (.str x) (.str x)
  | lst {a : Addr} {xs : List V} {ds : List D} : W.F a = some (.lst xs) → DpA G W xs ds → Dp G W (.ref a) (.lst ds)
  | scr {a : Addr} {ns : List Int} : SqL G.K W.F a (ns.map V.int) → Dp G W (.ref a) (.scr ns)
  | tup {a : Addr} {xs : List V} {ds : List D} : SqT G.K W.F a xs → DpA G W xs ds → Dp G W (.ref a) (.tup ds)
  | ref {a : Addr} {n : Nat} : W.rho[n]? = some a → Dp G W (.ref a) (.ref n)
  | obj {a dx : Addr} {c : Nat} {fs : List (Str × V)} {ds : List D} : W.F a = some (.ins (G.cl c).1 dx fs) → fs.map (·.1) = (G.cl c).2 → DpA G W (fs.map (·.2)) ds → Dp G W (.ref a) (.obj c ds)
inductive DpA (G : Sg) (W : Wd) : List V → List D → Prop
  | nil : DpA G W [] []
  | cons {v : V} {vs : List V} {d : D} {ds : List D} : Dp G W v d → DpA G W vs ds → DpA G W (v :: vs) (d :: ds)
end

structure Le (W W' : Wd) : Prop where
  fr : ∀ b o, W.F b = some o → W'.F b = some o
  rho : ∃ more, W'.rho = W.rho ++ more
theorem Le.refl (W : Wd) : Le W W := ⟨fun _ _ h => h, [], by simp⟩
theorem Le.trans {W W1 W2 : Wd} (a : Le W W1) (b : Le W1 W2) : Le W W2 := by
  obtain ⟨m1, e1⟩ := a.rho
  obtain ⟨m2, e2⟩ := b.rho
  exact ⟨fun c o h => b.fr c o (a.fr c o h), m1 ++ m2, by rw [e2, e1, List.append_assoc]⟩
theorem Le.get {W W' : Wd} (a : Le W W') {n : Nat} {x : Addr} (h : W.rho[n]? = some x) : W'.rho[n]? = some x := by
  obtain ⟨m, e⟩ := a.rho
  rw [e, List.getElem?_append_left (List.getElem?_eq_some_iff.mp h).1]
  exact h
theorem Le.mem {W W' : Wd} (a : Le W W') {x : Addr} (h : x ∈ W.rho) : x ∈ W'.rho := by
  obtain ⟨m, e⟩ := a.rho
  rw [e]
  exact List.mem_append_left _ h
theorem sqL_mono {K : PySem.W.Frag} {F H : Hp} (h : ∀ b o, F b = some o → H b = some o) {a : Addr} {xs : List V} (q : SqL K F a xs) : SqL K H a xs := Same.seq (H := F) h q
theorem sqT_mono {K : PySem.W.Frag} {F H : Hp} (h : ∀ b o, F b = some o → H b = some o) {a : Addr} {xs : List V} (q : SqT K F a xs) : SqT K H a xs := by
  rcases q with (q | ⟨o, q⟩) | q
  · exact .inl (.inl (h _ _ q))
  · exact .inl (.inr ⟨o, h _ _ q⟩)
  · exact .inr q
mutual
theorem Dp.mono {G : Sg} {W W' : Wd} (l : Le W W') : ∀ {d : D} {v : V}, Dp G W v d → Dp G W' v d
  | .non, _, h => by cases h; exact .non
  | .bl b, _, h => by cases h; exact .bl b
  | .int i, _, h => by cases h; exact .int i
  | .str s, _, h => by cases h; exact .str s
  | .tup ds, _, h => by cases h with | tup h1 h2 => exact .tup (sqT_mono l.fr h1) (DpA.mono l h2)
  | .lst ds, _, h => by cases h with | lst h1 h2 => exact .lst (l.fr _ _ h1) (DpA.mono l h2)
  | .ref n, _, h => by cases h with | ref h1 => exact .ref (l.get h1)
  | .obj c ds, _, h => by cases h with | obj h1 h2 h3 => exact .obj (l.fr _ _ h1) h2 (DpA.mono l h3)
  | .scr ns, _, h => by cases h with | scr h1 => exact .scr (sqL_mono l.fr h1)
theorem DpA.mono {G : Sg} {W W' : Wd} (l : Le W W') : ∀ {ds : List D} {vs : List V}, DpA G W vs ds → DpA G W' vs ds
  | [], _, h => by cases h; exact .nil
  | d :: ds, _, h => by cases h with | cons h1 h2 => exact .cons (Dp.mono l h1) (DpA.mono l h2)
end
section
variable {G : Sg} {W W' : Wd} {H H' H0 : Hp}
theorem DpA.length {vs : List V} {ds : List D} (h : DpA G W vs ds) : vs.length = ds.length := by
  induction ds generalizing vs with
  | nil => cases h; rfl
  | cons d ds ih => cases h with | cons h1 h2 => simp [ih h2]
theorem DpA.get {vs : List V} {ds : List D} (h : DpA G W vs ds) {i : Nat} {d : D} (e : ds[i]? = some d) : ∃ v, vs[i]? = some v ∧ Dp G W v d := by
  induction ds generalizing vs i with
  | nil => simp at e
  | cons d0 ds ih =>
    cases h with
    | cons h1 h2 =>
      cases i with
      | zero => simp at e; subst e; exact ⟨_, rfl, h1⟩
      | succ i => simpa using ih h2 (by simpa using e)
theorem DpA.get' {vs : List V} {ds : List D} (h : DpA G W vs ds) {i : Nat} {v : V} (e : vs[i]? = some v) : ∃ d, ds[i]? = some d ∧ Dp G W v d := by
  have hl : i < ds.length := by rw [← h.length]; exact (List.getElem?_eq_some_iff.mp e).1
  obtain ⟨v', e', r⟩ := h.get (List.getElem?_eq_getElem hl)
  rw [e] at e'
  cases e'
  exact ⟨_, List.getElem?_eq_getElem hl, r⟩
theorem DpA.append {vs us : List V} {ds es : List D} (h : DpA G W vs ds) (k : DpA G W us es) : DpA G W (vs ++ us) (ds ++ es) := by
  induction ds generalizing vs with
  | nil => cases h; exact k
  | cons d ds ih => cases h with | cons h1 h2 => exact .cons h1 (ih h2)
theorem DpA.take {vs : List V} {ds : List D} (h : DpA G W vs ds) (n : Nat) : DpA G W (vs.take n) (ds.take n) := by
  induction ds generalizing vs n with
  | nil => cases h; simp; exact .nil
  | cons d ds ih =>
    cases h with
    | cons h1 h2 =>
      cases n with
      | zero => exact .nil
      | succ n => exact .cons h1 (ih h2 n)
theorem DpA.drop {vs : List V} {ds : List D} (h : DpA G W vs ds) (n : Nat) : DpA G W (vs.drop n) (ds.drop n) := by
  induction ds generalizing vs n with
  | nil => cases h; simp; exact .nil
  | cons d ds ih =>
    cases h with
    | cons h1 h2 =>
      cases n with
      | zero => exact .cons h1 h2
      | succ n => exact ih h2 n
theorem DpA.set {vs : List V} {ds : List D} (h : DpA G W vs ds) {v : V} {d : D} (r : Dp G W v d) (n : Nat) : DpA G W (vs.set n v) (ds.set n d) := by
  induction ds generalizing vs n with
  | nil => cases h; exact .nil
  | cons d ds ih =>
    cases h with
    | cons h1 h2 =>
      cases n with
      | zero => exact .cons r h2
      | succ n => exact .cons h1 (ih h2 n)
theorem DpA.reverse {vs : List V} {ds : List D} (h : DpA G W vs ds) : DpA G W vs.reverse ds.reverse := by
  induction ds generalizing vs with
  | nil => cases h; exact .nil
  | cons d ds ih => cases h with | cons h1 h2 => simp only [List.reverse_cons]; exact (ih h2).append (.cons h1 .nil)
theorem DpA.one {v : V} {d : D} (h : Dp G W v d) : DpA G W [v] [d] := .cons h .nil

/-- a shared mutable object -/
inductive MO where
  | lst (ds : List D)
  | ins (c : Nat) (fs : List (Str × D))
abbrev Rs := List MO
def MOk (G : Sg) (W : Wd) (H : Hp) (a : Addr) : MO → Prop
  | .lst ds => ∃ vs, H a = some (.lst vs) ∧ DpA G W vs ds
  | .ins c fs => ∃ dx vs, H a = some (.ins (G.cl c).1 dx vs) ∧ vs.map (·.1) = fs.map (·.1) ∧ DpA G W (vs.map (·.2)) (fs.map (·.2))
/-- the heap holds what is frozen, and the shared objects -/
structure Gd (G : Sg) (W : Wd) (r : Rs) (H : Hp) : Prop where
  sub : ∀ b o, W.F b = some o → H b = some o
  len : r.length = W.rho.length
  nd : W.rho.Nodup
  nf : ∀ b ∈ W.rho, W.F b = none
  at_ : ∀ (n : Nat) (a : Addr) (m : MO), W.rho[n]? = some a → r[n]? = some m → MOk G W H a m
theorem MOk.mono {a : Addr} {m : MO} (l : Le W W') (h : MOk G W H a m) (e : H' a = H a) : MOk G W' H' a m := by
  cases m with
  | lst ds => obtain ⟨vs, h1, h2⟩ := h; exact ⟨vs, e.trans h1, h2.mono l⟩
  | ins c fs => obtain ⟨dx, vs, h1, h2, h3⟩ := h; exact ⟨dx, vs, e.trans h1, h2, h3.mono l⟩
theorem MOk.some {a : Addr} {m : MO} (h : MOk G W H a m) : H a ≠ none := by
  cases m with
  | lst ds => obtain ⟨vs, h1, h2⟩ := h; rw [h1]; exact nofun
  | ins c fs => obtain ⟨dx, vs, h1, h2, h3⟩ := h; rw [h1]; exact nofun
theorem Gd.rho_some {r : Rs} (g : Gd G W r H) {b : Addr} (hb : b ∈ W.rho) : H b ≠ none := by
  obtain ⟨n, hn⟩ := List.getElem?_of_mem hb
  have hl : n < r.length := by rw [g.len]; exact (List.getElem?_eq_some_iff.mp hn).1
  exact (g.at_ n b _ hn (List.getElem?_eq_getElem hl)).some

/-- from one point to a later one -/
structure Step (W W' : Wd) (H H' : Hp) : Prop where
  le : Le W W'
  newF : ∀ b, W'.F b ≠ none → W.F b ≠ none ∨ H b = none
  newR : ∀ b ∈ W'.rho, b ∈ W.rho ∨ H b = none
  keep : ∀ b o, H b = some o → b ∉ W.rho → H' b = some o
  dom : ∀ b, H b ≠ none → H' b ≠ none
theorem Step.refl (W : Wd) (H : Hp) : Step W W H H := ⟨.refl W, fun _ h => .inl h, fun _ h => .inl h, fun _ _ h _ => h, fun _ h => h⟩
theorem Step.trans {W1 W2 : Wd} {H1 H2 : Hp} (a : Step W W1 H H1) (b : Step W1 W2 H1 H2) : Step W W2 H H2 := by
  refine ⟨a.le.trans b.le, fun c h => ?_, fun c h => ?_, fun c o h hc => ?_, fun c h => b.dom c (a.dom c h)⟩
  · rcases b.newF c h with h | h
    · exact a.newF c h
    · exact .inr (Classical.byContradiction fun q => a.dom c q h)
  · rcases b.newR c h with h | h
    · exact a.newR c h
    · exact .inr (Classical.byContradiction fun q => a.dom c q h)
  · refine b.keep c o (a.keep c o h hc) fun q => ?_
    rcases a.newR c q with z | z
    · exact hc z
    · rw [h] at z; cases z
/-- an owned list (or any tracked thing that is not shared) stays and stays unfrozen -/
theorem Step.own (s : Step W W' H H') {a : Addr} {o : HO} (h : H a = some o) (h1 : W.F a = none) (h2 : a ∉ W.rho) : H' a = some o ∧ W'.F a = none ∧ a ∉ W'.rho := by
  refine ⟨s.keep a o h h2, ?_, fun q => ?_⟩
  · refine Classical.byContradiction fun q => ?_
    rcases s.newF a q with z | z
    · exact z h1
    · rw [h] at z; cases z
  · rcases s.newR a q with z | z
    · exact h2 z
    · rw [h] at z; cases z

/-- freezing what stands at a -/
def Wd.frz (W : Wd) (a : Addr) (o : HO) : Wd := ⟨upd W.F a o, W.rho⟩
theorem Le.frz {a : Addr} {o : HO} (h : W.F a = none) : Le W (W.frz a o) := ⟨fun b u e => by
  show upd W.F a o b = some u
  rw [upd_ne (ne_of_none e h)]; exact e, [], by simp [Wd.frz]⟩
theorem Gd.frz {r : Rs} {a : Addr} {o : HO} (g : Gd G W r H) (h : H a = some o) (h1 : W.F a = none) (h2 : a ∉ W.rho) : Gd G (W.frz a o) r H := by
  refine ⟨fun b u e => ?_, g.len, g.nd, fun b hb => ?_, fun n b m e e' => (g.at_ n b m e e').mono (.frz h1) rfl⟩
  · by_cases hb : b = a
    · subst hb; have e : upd W.F b o b = some u := e; rw [upd_same] at e; cases e; exact h
    · have e : upd W.F a o b = some u := e; rw [upd_ne hb] at e; exact g.sub b u e
  · have hne : b ≠ a := fun q => h2 (q ▸ hb)
    show upd W.F a o b = none
    rw [upd_ne hne]; exact g.nf b hb
/-- freezing what was fresh at H -/
theorem Step.frz {a : Addr} {o : HO} (s : Step W W' H H') (h : H a = none) (h1 : W'.F a = none) : Step W (W'.frz a o) H H' := by
  refine ⟨s.le.trans (.frz h1), fun b q => ?_, s.newR, s.keep, s.dom⟩
  by_cases hb : b = a
  · subst hb; exact .inr h
  · have q : upd W'.F a o b ≠ none := q
    rw [upd_ne hb] at q; exact s.newF b q
/-- a new object, unfrozen -/
theorem Step.new {p : Addr} {o : HO} (h : H p = none) : Step W W H (upd H p o) := by
  refine ⟨.refl W, fun _ h => .inl h, fun _ h => .inl h, fun b u e _ => ?_, fun b e => ?_⟩
  · rw [upd_ne (ne_of_none e h)]; exact e
  · have : b ≠ p := fun q => by subst q; exact e h
    rw [upd_ne this]; exact e
theorem Gd.new {r : Rs} {p : Addr} {o : HO} (g : Gd G W r H) (h : H p = none) : Gd G W r (upd H p o) := by
  refine ⟨fun b u e => ?_, g.len, g.nd, g.nf, fun n b m e e' => ?_⟩
  · have := g.sub b u e
    rw [upd_ne (ne_of_none this h)]; exact this
  · refine (g.at_ n b m e e').mono (.refl W) ?_
    have hb : H b ≠ none := g.rho_some (List.mem_of_getElem? e)
    have : b ≠ p := fun q => by subst q; exact hb h
    rw [upd_ne this]
theorem Gd.fnone {r : Rs} {p : Addr} (g : Gd G W r H) (h : H p = none) : W.F p = none := by
  refine Classical.byContradiction fun q => ?_
  cases e : W.F p with
  | none => exact q e
  | some o => have := g.sub p o e; rw [h] at this; cases this
theorem Gd.rnone {r : Rs} {p : Addr} (g : Gd G W r H) (h : H p = none) : p ∉ W.rho := fun q => g.rho_some q h

/-- a new frozen object -/
theorem Gd.newF {r : Rs} {p : Addr} {o : HO} (g : Gd G W r H) (h : H p = none) : Gd G (W.frz p o) r (upd H p o) ∧ Step W (W.frz p o) H (upd H p o) :=
  ⟨(g.new h).frz upd_same (g.fnone h) (g.rnone h), (Step.new h).frz h (g.fnone h)⟩
theorem frz_same {a : Addr} {o : HO} : (W.frz a o).F a = some o := upd_same

/-! ### what is read but may not be kept -/
def Pk (G : Sg) (W : Wd) (H : Hp) (v : V) (d : D) : Prop :=
  Dp G W v d ∨ ∃ a vs ds, v = .ref a ∧ d = .lst ds ∧ H a = some (.lst vs) ∧ DpA G W vs ds ∧ W.F a = none ∧ a ∉ W.rho
theorem Pk.step {v : V} {d : D} (s : Step W W' H H') (h : Pk G W H v d) : Pk G W' H' v d := by
  rcases h with h | ⟨a, vs, ds, rfl, rfl, h1, h2, h3, h4⟩
  · exact .inl (h.mono s.le)
  · obtain ⟨k1, k2, k3⟩ := s.own h1 h3 h4
    exact .inr ⟨a, vs, ds, rfl, rfl, k1, h2.mono s.le, k2, k3⟩
theorem Pk.lst {r : Rs} {v : V} {ds : List D} (g : Gd G W r H) (h : Pk G W H v (.lst ds)) : ∃ a vs, v = .ref a ∧ H a = some (.lst vs) ∧ DpA G W vs ds := by
  rcases h with h | ⟨a, vs, es, rfl, e, h1, h2, h3, h4⟩
  · cases h with | lst h1 h2 => exact ⟨_, _, rfl, g.sub _ _ h1, h2⟩
  · cases e
    exact ⟨a, vs, rfl, h1, h2⟩
theorem Pk.scr {r : Rs} {v : V} {ns : List Int} (g : Gd G W r H) (h : Pk G W H v (.scr ns)) : ∃ a, v = .ref a ∧ SqL G.K H a (ns.map V.int) := by
  rcases h with h | ⟨a, vs, es, rfl, e, h1, h2, h3, h4⟩
  · cases h with | scr h1 => exact ⟨_, rfl, sqL_mono g.sub h1⟩
  · cases e
theorem Pk.tup {r : Rs} {v : V} {ds : List D} (g : Gd G W r H) (h : Pk G W H v (.tup ds)) : ∃ a vs, v = .ref a ∧ SqT G.K H a vs ∧ SqT G.K W.F a vs ∧ DpA G W vs ds := by
  rcases h with h | ⟨a, vs, es, rfl, e, h1, h2, h3, h4⟩
  · cases h with | tup h1 h2 => exact ⟨_, _, rfl, sqT_mono g.sub h1, h1, h2⟩
  · cases e
theorem Pk.int {v : V} {i : Int} (h : Pk G W H v (.int i)) : v = .int i := by
  rcases h with h | ⟨a, vs, es, rfl, e, h1, h2, h3, h4⟩
  · cases h; rfl
  · cases e
theorem Pk.str {v : V} {i : Str} (h : Pk G W H v (.str i)) : v = .str i := by
  rcases h with h | ⟨a, vs, es, rfl, e, h1, h2, h3, h4⟩
  · cases h; rfl
  · cases e
theorem Pk.bl {v : V} {i : Bool} (h : Pk G W H v (.bl i)) : v = .bl i := by
  rcases h with h | ⟨a, vs, es, rfl, e, h1, h2, h3, h4⟩
  · cases h; rfl
  · cases e
theorem Pk.non {v : V} (h : Pk G W H v .non) : v = .non := by
  rcases h with h | ⟨a, vs, es, rfl, e, h1, h2, h3, h4⟩
  · cases h; rfl
  · cases e

/-- what is read at once: also a shared list -/
def Pr (G : Sg) (W : Wd) (H : Hp) (v : V) (d : D) : Prop := Pk G W H v d ∨ ∃ a vs ds, v = .ref a ∧ d = .lst ds ∧ H a = some (.lst vs) ∧ DpA G W vs ds
@[simp] def deref (r : Rs) : D → D
  | .ref n => match r[n]? with
    | some (.lst ds) => .lst ds
    | _ => .ref n
  | d => d
theorem Gd.shared {r : Rs} (g : Gd G W r H) {n : Nat} {v : V} {ds : List D} (h : Dp G W v (.ref n)) (e : r[n]? = some (.lst ds)) : ∃ a vs, v = .ref a ∧ W.rho[n]? = some a ∧ H a = some (.lst vs) ∧ DpA G W vs ds := by
  cases h with
  | ref h1 =>
    obtain ⟨vs, h2, h3⟩ := g.at_ n _ _ h1 e
    exact ⟨_, vs, rfl, h1, h2, h3⟩
theorem Pk.ref {v : V} {n : Nat} (h : Pk G W H v (.ref n)) : Dp G W v (.ref n) := by
  rcases h with h | ⟨a, vs, ds, rfl, e, _⟩
  · exact h
  · cases e
theorem Pk.pr {r : Rs} (g : Gd G W r H) {v : V} {d : D} (h : Pk G W H v d) : Pr G W H v (deref r d) := by
  unfold deref
  split
  · rename_i n
    split
    · rename_i ds e
      obtain ⟨a, vs, rfl, h1, h2, h3⟩ := g.shared h.ref e
      exact .inr ⟨a, vs, ds, rfl, rfl, h2, h3⟩
    · exact .inl h
  · exact .inl h
theorem Pr.lst {r : Rs} {v : V} {ds : List D} (g : Gd G W r H) (h : Pr G W H v (.lst ds)) : ∃ a vs, v = .ref a ∧ H a = some (.lst vs) ∧ DpA G W vs ds := by
  rcases h with h | ⟨a, vs, es, rfl, e, h1, h2⟩
  · exact h.lst g
  · cases e
    exact ⟨a, vs, rfl, h1, h2⟩
theorem Pr.scr {r : Rs} {v : V} {ns : List Int} (g : Gd G W r H) (h : Pr G W H v (.scr ns)) : ∃ a, v = .ref a ∧ SqL G.K H a (ns.map V.int) := by
  rcases h with h | ⟨a, vs, es, rfl, e, h1, h2⟩
  · exact h.scr g
  · cases e
theorem Pr.tup {r : Rs} {v : V} {ds : List D} (g : Gd G W r H) (h : Pr G W H v (.tup ds)) : ∃ a vs, v = .ref a ∧ SqT G.K H a vs ∧ SqT G.K W.F a vs ∧ DpA G W vs ds := by
  rcases h with h | ⟨a, vs, es, rfl, e, h1, h2⟩
  · exact h.tup g
  · cases e
theorem Pr.int {v : V} {i : Int} (h : Pr G W H v (.int i)) : v = .int i := by
  rcases h with h | ⟨a, vs, es, rfl, e, h1, h2⟩
  · exact h.int
  · cases e
theorem Pr.str {v : V} {i : Str} (h : Pr G W H v (.str i)) : v = .str i := by
  rcases h with h | ⟨a, vs, es, rfl, e, h1, h2⟩
  · exact h.str
  · cases e
theorem Pr.bl {v : V} {i : Bool} (h : Pr G W H v (.bl i)) : v = .bl i := by
  rcases h with h | ⟨a, vs, es, rfl, e, h1, h2⟩
  · exact h.bl
  · cases e
theorem Pr.non {v : V} (h : Pr G W H v .non) : v = .non := by
  rcases h with h | ⟨a, vs, es, rfl, e, h1, h2⟩
  · exact h.non
  · cases e
/-! ### to the hand layer's data -/
mutual
theorem Dp.py {r : Rs} (g : Gd G W r H) : ∀ {d : D} {v : V} {p : PyData}, Dp G W v d → d.py = some p → L2.Dp G.K H v p
  | .non, _, _, h, e => by cases h; cases e; exact .non
  | .bl b, _, _, h, e => by cases h; cases e; exact .bl b
  | .int i, _, _, h, e => by cases h; cases e; exact .int i
  | .str s, _, _, h, e => by cases h; cases e; exact .str s
  | .tup ds, _, p, h, e => by
    cases h with
    | tup h1 h2 =>
      simp only [D.py, Option.map_eq_some_iff] at e
      obtain ⟨ps, e1, rfl⟩ := e
      exact .tup (sqT_mono g.sub h1) (DpA.py g h2 e1)
  | .lst ds, _, p, h, e => by
    cases h with
    | lst h1 h2 =>
      simp only [D.py, Option.map_eq_some_iff] at e
      obtain ⟨ps, e1, rfl⟩ := e
      exact .lst (.of (g.sub _ _ h1)) (DpA.py g h2 e1)
  | .ref n, _, _, h, e => by cases e
  | .obj c ds, _, _, h, e => by cases e
  | .scr ns, _, _, h, e => by cases e
theorem DpA.py {r : Rs} (g : Gd G W r H) : ∀ {ds : List D} {vs : List V} {ps : List PyData}, DpA G W vs ds → D.pyAll ds = some ps → L2.DpAll G.K H vs ps
  | [], _, _, h, e => by cases h; cases e; exact .nil
  | d :: ds, _, ps, h, e => by
    cases h with
    | cons h1 h2 =>
      simp only [D.pyAll] at e
      split at e
      · rename_i a as ea eas
        cases e
        exact .cons (Dp.py g h1 ea) (DpA.py g h2 eas)
      · cases e
end
theorem Pk.py {r : Rs} (g : Gd G W r H) {d : D} {v : V} {p : PyData} (h : Pk G W H v d) (e : d.py = some p) : L2.Dp G.K H v p := by
  rcases h with h | ⟨a, vs, ds, rfl, rfl, h1, h2, h3, h4⟩
  · exact h.py g e
  · simp only [D.py, Option.map_eq_some_iff] at e
    obtain ⟨ps, e1, rfl⟩ := e
    exact .lst (.of h1) (DpA.py g h2 e1)
theorem Pr.py {r : Rs} (g : Gd G W r H) {d : D} {v : V} {p : PyData} (h : Pr G W H v d) (e : d.py = some p) : L2.Dp G.K H v p := by
  rcases h with h | ⟨a, vs, ds, rfl, rfl, h1, h2⟩
  · exact h.py g e
  · simp only [D.py, Option.map_eq_some_iff] at e
    obtain ⟨ps, e1, rfl⟩ := e
    exact .lst (.of h1) (DpA.py g h2 e1)
theorem nodup_at {α : Type} : ∀ {l : List α} {i j : Nat} {a : α}, l.Nodup → l[i]? = some a → l[j]? = some a → i = j
  | [], _, _, _, _, h, _ => by simp at h
  | x :: l, 0, 0, _, _, _, _ => rfl
  | x :: l, 0, j + 1, a, nd, h1, h2 => by
    simp at h1 h2
    subst h1
    exact absurd (List.mem_of_getElem? h2) (List.nodup_cons.mp nd).1
  | x :: l, i + 1, 0, a, nd, h1, h2 => by
    simp at h1 h2
    subst h2
    exact absurd (List.mem_of_getElem? h1) (List.nodup_cons.mp nd).1
  | x :: l, i + 1, j + 1, a, nd, h1, h2 => by
    simp only [List.getElem?_cons_succ] at h1 h2
    rw [nodup_at (i := i) (j := j) (List.nodup_cons.mp nd).2 h1 h2]
/-- a shared object is changed -/
theorem Gd.put {r : Rs} (g : Gd G W r H) {n : Nat} {a : Addr} {vs : List V} {ds : List D} (h : W.rho[n]? = some a) (p : DpA G W vs ds) : Gd G W (r.set n (.lst ds)) (upd H a (.lst vs)) := by
  have hm : a ∈ W.rho := List.mem_of_getElem? h
  refine ⟨fun b u e => ?_, by rw [List.length_set]; exact g.len, g.nd, g.nf, fun m b o e e' => ?_⟩
  · have : b ≠ a := fun q => by subst q; rw [g.nf _ hm] at e; cases e
    rw [upd_ne this]; exact g.sub b u e
  · rw [List.getElem?_set] at e'
    by_cases hnm : n = m
    · subst hnm
      rw [h] at e
      cases e
      rw [if_pos rfl] at e'
      split at e'
      · cases e'
        exact ⟨vs, upd_same, p⟩
      · cases e'
    · rw [if_neg hnm] at e'
      refine (g.at_ m b o e e').mono (.refl W) ?_
      have : b ≠ a := fun q => by
        subst q
        exact hnm (nodup_at g.nd h e)
      rw [upd_ne this]
theorem Step.put {n : Nat} {a : Addr} {o : HO} (h : W.rho[n]? = some a) : Step W W H (upd H a o) := by
  have hm : a ∈ W.rho := List.mem_of_getElem? h
  refine ⟨.refl W, fun _ h => .inl h, fun _ h => .inl h, fun b u e hb => ?_, fun b e => ?_⟩
  · have : b ≠ a := fun q => hb (q ▸ hm)
    rw [upd_ne this]; exact e
  · by_cases hb : b = a
    · subst hb; rw [upd_same]; exact nofun
    · rw [upd_ne hb]; exact e
end
end Nv

/-! N2: what a piece of syntax says over pure data (denotations, as predicates). -/
namespace Nv
open PySem PySem.Spec PyProof.Rows L2

/-- a slot: not set, a value, a list of the frame's own -/
inductive Sl where | un | val (d : D) | own (ds : List D)
abbrev En := List Sl
/-- an exception's end: the class, the fields, the slots where it came -/
abbrev Xk := Nat → List D → En → Rs → Prop
abbrev DE := En → Rs → Xk → (D → Rs → Prop) → Prop
abbrev DT := En → Rs → Xk → (Bool → Rs → Prop) → Prop
abbrev DA := En → Rs → Xk → (List D → Rs → Prop) → Prop
abbrev DO := En → Rs → Xk → (Option Int → Rs → Prop) → Prop
abbrev DG := D → En → (En → Prop) → Prop
/-- a def's promise -/
abbrev Sem := List D → Rs → (Nat → List D → Rs → Prop) → (D → Rs → Prop) → Prop
structure Kt where
  nx : En → Rs → Prop
  rt : D → Rs → Prop
  bk : En → Rs → Prop
  ct : En → Rs → Prop
  x : Xk
abbrev DS := En → Rs → Kt → Prop

/-- what an option holds -/
@[simp] def Th {α : Type} (o : Option α) (q : α → Prop) : Prop := match o with
  | some a => q a
  | none => False

/-! ### operations by value -/
def eqP (d e : D) : Option Bool := match d.py, e.py with
  | some a, some b => if SeqAt.shaped a && SeqAt.shaped b then some (PyData.eqv a b) else none
  | _, _ => none
def eqD (d e : D) : Option Bool := match d, e with
  | .int i, .int j => some (decide (i = j))
  | .str i, .str j => some (decide (i = j))
  | d, e => eqP d e
@[simp] def addD : D → D → Option D
  | .int i, .int j => some (.int (i + j))
  | .str s, .str t => if s.length + t.length ≤ sizeLine then some (.str (s ++ t)) else none
  | .tup a, .tup b => if a.length + b.length ≤ sizeLine then some (.tup (a ++ b)) else none
  | .lst a, .lst b => if a.length + b.length ≤ sizeLine then some (.lst (a ++ b)) else none
  | _, _ => none
@[simp] def subD : D → D → Option D
  | .int i, .int j => some (.int (i - j))
  | _, _ => none
def repS (s : Str) (n : Nat) : Str := ⟨(List.replicate n s.cps.toList).flatten.toArray⟩
@[simp] def mulD : D → D → Option D
  | .int i, .int j => if (-(2 ^ 64) < i ∧ i < 2 ^ 64) ∨ (-(2 ^ 64) < j ∧ j < 2 ^ 64) then some (.int (i * j)) else none
  | .str s, .int n => if 0 ≤ n ∧ n ≤ 100000 ∧ s.length ≤ 100 then some (.str (repS s n.toNat)) else none
  | _, _ => none
@[simp] def fdivD : D → D → Option D
  | .int i, .int j => if 0 < j ∧ j < 1073741824 then some (.int (i / j)) else none
  | _, _ => none
@[simp] def modD : D → D → Option D
  | .int i, .int j => if 0 < j then some (.int (i % j)) else none
  | _, _ => none
@[simp] def powD : D → D → Option D
  | .int i, .int j => if 0 ≤ j ∧ j ≤ 1000000 ∧ i.natAbs < 2 ^ 64 then some (.int (i ^ j.toNat)) else none
  | _, _ => none
@[simp] def negD : D → Option D
  | .int i => some (.int (-i))
  | _ => none
/-! comparisons: a Bool -/
def eqB (d e : D) : Option Bool := eqD d e
def neB (d e : D) : Option Bool := (eqD d e).map not
@[simp] def ltB : D → D → Option Bool
  | .int i, .int j => some (decide (i < j))
  | .str i, .str j => some (decide (i.cps.toList < j.cps.toList))
  | _, _ => none
@[simp] def leB : D → D → Option Bool
  | .int i, .int j => some (decide (i ≤ j))
  | .str i, .str j => some (!decide (j.cps.toList < i.cps.toList))
  | _, _ => none
@[simp] def gtB : D → D → Option Bool
  | .int i, .int j => some (decide (j < i))
  | _, _ => none
@[simp] def geB : D → D → Option Bool
  | .int i, .int j => some (decide (j ≤ i))
  | _, _ => none
@[simp] def isNone : D → Bool
  | .non => true
  | _ => false
@[simp] def isB (d e : D) : Option Bool := match e with
  | .non => some (isNone d)
  | _ => none
@[simp] def isntB (d e : D) : Option Bool := match e with
  | .non => some (!isNone d)
  | _ => none
def strIn (i j : Str) : Bool := !(Builtin.Str.occurrences j i 0 j.length 1).isEmpty
def inB (d e : D) : Option Bool := match d, e with
  | .str i, .str j => some (strIn i j)
  | d, .lst es => match d.py, D.pyAll es with
    | some a, some bs => if SeqAt.shaped a && SeqAt.shaped (.list bs) then some (bs.any fun z => PyData.eqv z a) else none
    | _, _ => none
  | d, .tup es => match d.py, D.pyAll es with
    | some a, some bs => if SeqAt.shaped a && SeqAt.shaped (.tuple bs) then some (bs.any fun z => PyData.eqv z a) else none
    | _, _ => none
  | _, _ => none
def ninB (d e : D) : Option Bool := (inB d e).map not
/-- a comparison as a value -/
@[simp] def cmpV (f : D → D → Option Bool) (d e : D) : Option D := (f d e).map D.bl
@[simp] def truB : D → Option Bool
  | .bl b => some b
  | _ => none
/-- subscripts -/
@[simp] def idxV : D → D → Option D
  | .lst ds, .int i => atI ds i
  | .tup ds, .int i => atI ds i
  | .str z, .int i => if z.length ≤ sizeLine then (atI z.cps.toList i).map fun c => .str ⟨#[c]⟩ else none
  | _, _ => none
def cutD (xs : List D) (lo hi : Option Int) : List D := (xs.drop (HT.sIx xs.length 0 lo)).take (HT.sIx xs.length xs.length hi - HT.sIx xs.length 0 lo)
@[simp] def slcV : D → Option Int → Option Int → Option D
  | .lst ds, lo, hi => some (.lst (cutD ds lo hi))
  | .tup ds, lo, hi => some (.tup (cutD ds lo hi))
  | .scr ns, lo, hi => some (.lst (cutD (ns.map D.int) lo hi))
  | .str z, lo, hi => if z.length ≤ sizeLine then some (.str (cutS z lo hi)) else none
  | _, _, _ => none
/-- built-in functions -/
@[simp] def lenF : List D → Option D
  | [.lst ds] => some (.int ds.length)
  | [.tup ds] => some (.int ds.length)
  | [.scr ns] => some (.int ns.length)
  | [.str z] => if z.length ≤ sizeLine then some (.int z.length) else none
  | _ => none
@[simp] def absF : List D → Option D
  | [.int i] => some (.int (if i < 0 then -i else i))
  | _ => none
@[simp] def intF : List D → Option D
  | [.int i] => some (.int i)
  | [.bl k] => some (.int (if k then 1 else 0))
  | _ => none
@[simp] def tupF : List D → Option D
  | [.lst ds] => some (.tup ds)
  | [.tup ds] => some (.tup ds)
  | _ => none
def reprOf (d : D) : Option Str := match d.py with
  | some p => if p.showable && !p.hasDict && decide (p.depth ≤ 60) && decide (p.shown.length ≤ sizeLine) then some p.shown else none
  | none => none
def reprF : List D → Option D
  | [d] => (reprOf d).map D.str
  | _ => none
@[simp] def max2F : List D → Option D
  | [.int n, .int m] => some (.int (if m > n then m else n))
  | _ => none
@[simp] def min2F : List D → Option D
  | [.int n, .int m] => some (.int (if m < n then m else n))
  | _ => none
/-- the texts of a list -/
@[simp] def strsOf : List D → Option (List Str)
  | [] => some []
  | .str s :: ds => (strsOf ds).map (s :: ·)
  | _ => none
def joinF (sep : D) : List D → Option D
  | [.lst ds] => match sep, strsOf ds with
    | .str a, some ys => if (ys.map (·.length)).sum + ys.length * a.length ≤ 16777216 then some (.str (Txt.join a ys)) else none
    | _, _ => none
  | [.tup ds] => match sep, strsOf ds with
    | .str a, some ys => if (ys.map (·.length)).sum + ys.length * a.length ≤ 16777216 then some (.str (Txt.join a ys)) else none
    | _, _ => none
  | _ => none

/-! ### expressions -/
@[simp] def varD (i : Nat) : DE := fun env r _ q => match env[i]? with
  | some (.val d) => q d r
  | _ => False
@[simp] def peekD (i : Nat) : DE := fun env r _ q => match env[i]? with
  | some (.val d) => q d r
  | some (.own ds) => q (.lst ds) r
  | _ => False
@[simp] def cD (d : D) : DE := fun _ r _ q => q d r
@[simp] def opD (f : D → D → Option D) (a b : DE) : DE := fun env r x q => a env r x fun d r1 => b env r1 x fun e r2 => Th (f (deref r2 d) (deref r2 e)) fun z => q z r2
@[simp] def unD (f : D → Option D) (a : DE) : DE := fun env r x q => a env r x fun d r1 => Th (f d) fun z => q z r1
@[simp] def nilA : DA := fun _ r _ q => q [] r
@[simp] def consA (a : DE) (as : DA) : DA := fun env r x q => a env r x fun d r1 => as env r1 x fun ds r2 => q (d :: ds) r2
@[simp] def callD (S : Sem) (as : DA) : DE := fun env r x q => as env r x fun ds r1 => S ds r1 (fun c fs r2 => x c fs env r2) q
/-- a call with keywords: the places of the keywords' values -/
@[simp] def callKD (S : Sem) (g : List D → List D → List D) (as bs : DA) : DE := fun env r x q => as env r x fun ds r1 => bs env r1 x fun es r2 => S (g ds es) r2 (fun c fs r2 => x c fs env r2) q
@[simp] def bltD (f : List D → Option D) (as : DA) : DE := fun env r x q => as env r x fun ds r1 => Th (f (ds.map (deref r1))) fun z => q z r1
@[simp] def methD (f : D → List D → Option D) (a : DE) (as : DA) : DE := fun env r x q => a env r x fun d r1 => as env r1 x fun ds r2 => Th (f (deref r2 d) (ds.map (deref r2))) fun z => q z r2
@[simp] def tupD (as : DA) : DE := fun env r x q => as env r x fun ds r1 => ds.length ≤ sizeLine ∧ q (.tup ds) r1
@[simp] def lstD (as : DA) : DE := fun env r x q => as env r x fun ds r1 => ds.length ≤ sizeLine ∧ q (.lst ds) r1
@[simp] def noO : DO := fun _ r _ q => q none r
@[simp] def someO (a : DE) : DO := fun env r x q => a env r x fun d r1 => match d with
  | .int i => q (some i) r1
  | _ => False
@[simp] def slcD (a : DE) (lo hi : DO) : DE := fun env r x q => a env r x fun d r1 => lo env r1 x fun l r2 => hi env r2 x fun h r3 => Th (slcV (deref r3 d) l h) fun z => q z r3
@[simp] def ifD (t : DT) (a b : DE) : DE := fun env r x q => t env r x fun c r1 => if c then a env r1 x q else b env r1 x q
/-- and, or, not of truths as values -/
@[simp] def andD (a b : DE) : DE := fun env r x q => a env r x fun d r1 => match d with
  | .bl true => b env r1 x q
  | .bl false => q (.bl false) r1
  | _ => False
@[simp] def orD (a b : DE) : DE := fun env r x q => a env r x fun d r1 => match d with
  | .bl true => q (.bl true) r1
  | .bl false => b env r1 x q
  | _ => False
@[simp] def notD (a : DE) : DE := fun env r x q => a env r x fun d r1 => match d with
  | .bl c => q (.bl (!c)) r1
  | _ => False
@[simp] def chainD (f g : D → D → Option Bool) (a b c : DE) : DE := fun env r x q => a env r x fun d r1 => b env r1 x fun e r2 => Th (f (deref r2 d) (deref r2 e)) fun k =>
  if k then c env r2 x fun h r3 => Th (g (deref r3 e) (deref r3 h)) fun k' => q (.bl k') r3 else q (.bl false) r2
/-- a list backwards; a fresh list becomes a shared one -/
@[simp] def revD (a : DE) : DE := fun env r x q => a env r x fun d r1 => match deref r1 d with
  | .lst ds => q (.lst ds.reverse) r1
  | _ => False
@[simp] def shD (a : DE) : DE := fun env r x q => a env r x fun d r1 => match d with
  | .lst ds => q (.ref r1.length) (r1 ++ [.lst ds])
  | _ => False
/-- a shared list's last item is taken; an item more; an item put -/
@[simp] def popR (a : DE) : DE := fun env r x q => a env r x fun d r1 => match d with
  | .ref n => match r1[n]? with
    | some (.lst ds) => match ds.getLast? with
      | some y => q y (r1.set n (.lst ds.dropLast))
      | none => False
    | _ => False
  | _ => False
@[simp] def apR (a e : DE) : DE := fun env r x q => a env r x fun d r1 => match d with
  | .ref n => match r1[n]? with
    | some (.lst _) => e env r1 x fun y r2 => match r2[n]? with
      | some (.lst ds) => ds.length < sizeLine ∧ q .non (r2.set n (.lst (ds ++ [y])))
      | _ => False
    | _ => False
  | _ => False
/-! tests -/
@[simp] def valT (a : DE) : DT := fun env r x q => a env r x fun d r1 => match d with
  | .bl b => q b r1
  | _ => False
@[simp] def cmpT (f : D → D → Option Bool) (a b : DE) : DT := fun env r x q => a env r x fun d r1 => b env r1 x fun e r2 => Th (f (deref r2 d) (deref r2 e)) fun k => q k r2
@[simp] def notT (a : DT) : DT := fun env r x q => a env r x fun c r1 => q (!c) r1
@[simp] def andT (a b : DT) : DT := fun env r x q => a env r x fun c r1 => if c then b env r1 x q else q false r1
@[simp] def orT (a b : DT) : DT := fun env r x q => a env r x fun c r1 => if c then q true r1 else b env r1 x q
@[simp] def chainT (f g : D → D → Option Bool) (a b c : DE) : DT := fun env r x q => a env r x fun d r1 => b env r1 x fun e r2 => Th (f (deref r2 d) (deref r2 e)) fun k =>
  if k then c env r2 x fun h r3 => Th (g (deref r3 e) (deref r3 h)) fun k' => q k' r3 else q false r2
/-! what is walked: its items -/
abbrev DI := DA
@[simp] def seqI (a : DE) : DI := fun env r x q => a env r x fun d r1 => match d with
  | .lst ds => q ds r1
  | .tup ds => q ds r1
  | .str z => q (z.cps.toList.map fun c => D.str ⟨#[c]⟩) r1
  | _ => False
def rangeOf (lo : Int) (n : Nat) : List D := (List.range n).map fun i => D.int (lo + (i : Nat))
@[simp] def rng1I (a : DE) : DI := fun env r x q => a env r x fun d r1 => match d with
  | .int j => (-(2 ^ 62) ≤ j ∧ j < 2 ^ 62) ∧ q (rangeOf 0 j.toNat) r1
  | _ => False
@[simp] def rng2I (a b : DE) : DI := fun env r x q => a env r x fun d r1 => b env r1 x fun e r2 => match d, e with
  | .int i, .int j => (-(2 ^ 62) ≤ i ∧ i < 2 ^ 62 ∧ -(2 ^ 62) ≤ j ∧ j < 2 ^ 62) ∧ q (rangeOf i (j - i).toNat) r2
  | _, _ => False
def enumOf : Nat → List D → List D
  | _, [] => []
  | n, d :: ds => .tup [.int (n : Int), d] :: enumOf (n + 1) ds
/-! targets -/
@[simp] def nmG (i : Nat) : DG := fun d env k => k (env.set i (.val d))
@[simp] def nilG : List D → En → (En → Prop) → Prop := fun ds env k => match ds with
  | [] => k env
  | _ => False
@[simp] def consG (g : DG) (gs : List D → En → (En → Prop) → Prop) : List D → En → (En → Prop) → Prop := fun ds env k => match ds with
  | d :: ds => g d env fun env' => gs ds env' k
  | [] => False
@[simp] def tupG (gs : List D → En → (En → Prop) → Prop) : DG := fun d env k => match d with
  | .tup ds => gs ds env k
  | _ => False
/-- the slots of a block's own names forgotten -/
@[simp] def wipeE (env : En) : List Nat → En
  | [] => env
  | v :: vs => (wipeE env vs).set v .un
/-- [elt for tg in it if t]: over the items -/
@[simp] def compW (tg : DG) (t : DT) (elt : DE) (env0 : En) (q : List D → Rs → Prop) : List D → List D → Rs → Prop
  | [], acc, r => q acc r
  | d :: ds, acc, r => tg d env0 fun env => t env r (fun _ _ _ _ => False) fun c r1 =>
      if c then elt env r1 (fun _ _ _ _ => False) fun y r2 => acc.length < sizeLine ∧ compW tg t elt env0 q ds (acc ++ [y]) r2 else compW tg t elt env0 q ds acc r1
@[simp] def yesT : DT := fun _ r _ q => q true r
@[simp] def compD (it : DI) (tg : DG) (t : DT) (elt : DE) (vs : List Nat) : DE := fun env r x q => it env r x fun items r1 => compW tg t elt (wipeE env vs) (fun ds r => q (.lst ds) r) items [] r1

/-! ### statements -/
@[simp] def skipS : DS := fun env r k => k.nx env r
@[simp] def seqS (a b : DS) : DS := fun env r k => a env r { k with nx := fun env r => b env r k }
@[simp] def exS (a : DE) : DS := fun env r k => a env r k.x fun _ r => k.nx env r
@[simp] def setS (i : Nat) (a : DE) : DS := fun env r k => a env r k.x fun d r => k.nx (env.set i (.val d)) r
/-- a fresh list into a slot of its own -/
@[simp] def setO (i : Nat) (a : DE) : DS := fun env r k => a env r k.x fun d r => match d with
  | .lst ds => k.nx (env.set i (.own ds)) r
  | _ => False
@[simp] def letS (g : DG) (a : DE) : DS := fun env r k => a env r k.x fun d r => g d env fun env => k.nx env r
/-- an own list is kept from now on -/
@[simp] def frzS (i : Nat) : DS := fun env r k => match env[i]? with
  | some (.own ds) => k.nx (env.set i (.val (.lst ds))) r
  | _ => k.nx env r
/-- own.append(e) -/
@[simp] def appS (i : Nat) (a : DE) : DS := fun env r k => match env[i]? with
  | some (.own ds) => a env r k.x fun d r => ds.length < sizeLine ∧ k.nx (env.set i (.own (ds ++ [d]))) r
  | _ => False
/-- own[ix] = e -/
@[simp] def putS (i : Nat) (ix a : DE) : DS := fun env r k => a env r k.x fun d r => match env[i]? with
  | some (.own ds) => ix env r k.x fun e r => match e with
    | .int j => Th (ixN ds.length j) fun n => k.nx (env.set i (.own (ds.set n d))) r
    | _ => False
  | _ => False
/-- several slots at once -/
@[simp] def setAll (env : En) : List Nat → List Sl → En
  | i :: is, s :: ss => setAll (env.set i s) is ss
  | _, _ => env
@[simp] def mixW : List (Bool × DE) → En → Rs → Xk → (List Sl → Rs → Prop) → Prop
  | [], _, r, _, q => q [] r
  | (o, a) :: ms, env, r, x, q => a env r x fun d r => match o, d with
    | false, d => mixW ms env r x fun ss r => q (.val d :: ss) r
    | true, .lst ds => mixW ms env r x fun ss r => q (.own ds :: ss) r
    | true, _ => False
/-- i, j, .. = a, b, .. -/
@[simp] def mparS (is : List Nat) (ms : List (Bool × DE)) : DS := fun env r k => mixW ms env r k.x fun ss r => k.nx (setAll env is ss) r
/-- o[ix] = a, o a shared list -/
@[simp] def putR (o ix a : DE) : DS := fun env r k => a env r k.x fun d r => o env r k.x fun od r => ix env r k.x fun e r => match od, e with
  | .ref n, .int j => match r[n]? with
    | some (.lst ds) => Th (ixN ds.length j) fun m => k.nx env (r.set n (.lst (ds.set m d)))
    | _ => False
  | _, _ => False
@[simp] def retS (a : DE) : DS := fun env r k => a env r k.x k.rt
@[simp] def retN : DS := fun _ r k => k.rt .non r
@[simp] def ifS (t : DT) (a b : DS) : DS := fun env r k => t env r k.x fun c r => if c then a env r k else b env r k
@[simp] def brkS : DS := fun env r k => k.bk env r
@[simp] def cntS : DS := fun env r k => k.ct env r
def whW (t : DT) (b : DS) (k : Kt) : Nat → En → Rs → Prop
  | 0 => fun _ _ => False
  | n + 1 => fun env r => t env r k.x fun c r => if c then b env r { k with nx := whW t b k n, ct := whW t b k n, bk := k.nx } else k.nx env r
def whS (t : DT) (b : DS) : DS := fun env r k => ∃ n, whW t b k n env r
@[simp] def forW (tg : DG) (b : DS) (k : Kt) : List D → En → Rs → Prop
  | [] => fun env r => k.nx env r
  | d :: ds => fun env r => tg d env fun env => b env r { k with nx := forW tg b k ds, ct := forW tg b k ds, bk := k.nx }
@[simp] def forS (it : DI) (tg : DG) (b : DS) : DS := fun env r k => it env r k.x fun items r => forW tg b k items env r
end Nv

/-! N3: the expressions' rules, over pure data. -/
namespace Nv
open PySem PySem.Spec PyProof.Rows L2

/-- a slot bears what is said -/
def SlOk (G : Sg) (W : Wd) (H0 H : Hp) (x : Option (Option V)) : Sl → Prop
  | .un => True
  | .val d => ∃ v, x = some (some v) ∧ Dp G W v d
  | .own ds => ∃ a vs, x = some (some (.ref a)) ∧ H a = some (.lst vs) ∧ DpA G W vs ds ∧ W.F a = none ∧ a ∉ W.rho ∧ H0 a = none
structure Lo (G : Sg) (W : Wd) (H0 H : Hp) (env : En) (σ : L2.St) : Prop where
  len : env.length = σ.length
  at_ : ∀ (i : Nat) (s : Sl), env[i]? = some s → SlOk G W H0 H σ[i]? s
  sep : ∀ (i j : Nat) (a : Addr) (ds es : List D), i ≠ j → env[i]? = some (.own ds) → env[j]? = some (.own es) → σ[i]? = some (some (.ref a)) → σ[j]? ≠ some (some (.ref a))
/-- a def's entry: the fixed part, the world, the heap; what an exception is to meet -/
structure Bs where
  G : Sg
  W0 : Wd
  H0 : Hp
  wx : L2.WX
structure Stt (B : Bs) (W : Wd) (env : En) (r : Rs) (σ : L2.St) (H : Hp) : Prop where
  lo : Lo B.G W B.H0 H env σ
  gd : Gd B.G W r H
  st : Nv.Step B.W0 W B.H0 H
/-- what is wanted of exceptions suffices -/
def Xl (B : Bs) (x : Xk) : Prop := ∀ (c : Nat) (fs : List D) (env : En) (r : Rs), x c fs env r → ∀ (W : Wd) (σ : L2.St) (H : Hp) (dx : Addr) (kvs : List (Str × V)), Stt B W env r σ H → H dx = some (.xd kvs) →
  kvs.map (·.1) = (B.G.cl c).2 → DpA B.G W (kvs.map (·.2)) fs → B.wx (.ref (B.G.cl c).1) (some dx) σ H
inductive PkA (G : Sg) (W : Wd) (H : Hp) : List V → List D → Prop
  | nil : PkA G W H [] []
  | cons {v : V} {vs : List V} {d : D} {ds : List D} : Pk G W H v d → PkA G W H vs ds → PkA G W H (v :: vs) (d :: ds)
theorem PkA.step {G : Sg} {W W' : Wd} {H H' : Hp} (s : Nv.Step W W' H H') {vs : List V} {ds : List D} (h : PkA G W H vs ds) : PkA G W' H' vs ds := by
  induction h with
  | nil => exact .nil
  | cons h1 _ ih => exact .cons (h1.step s) ih
section
variable {B : Bs} {W W' : Wd} {env : En} {r r' : Rs} {σ : L2.St} {H H' : Hp} {x : Xk}
theorem Lo.step {G : Sg} {H0 : Hp} (l : Lo G W H0 H env σ) (s : Nv.Step W W' H H') : Lo G W' H0 H' env σ := by
  refine ⟨l.len, fun i t e => ?_, l.sep⟩
  have h := l.at_ i t e
  cases t with
  | un => trivial
  | val d => obtain ⟨v, h1, h2⟩ := h; exact ⟨v, h1, h2.mono s.le⟩
  | own ds =>
    obtain ⟨a, vs, h1, h2, h3, h4, h5, h6⟩ := h
    obtain ⟨k1, k2, k3⟩ := s.own h2 h4 h5
    exact ⟨a, vs, h1, k1, h3.mono s.le, k2, k3, h6⟩
theorem Stt.step (S : Stt B W env r σ H) (s : Nv.Step W W' H H') (g : Gd B.G W' r' H') : Stt B W' env r' σ H' := ⟨S.lo.step s, g, S.st.trans s⟩

def tE (B : Bs) (den : DE) : TE := fun σ H Q => ∃ W env r x q, Stt B W env r σ H ∧ Xl B x ∧ den env r x q ∧
  ∀ d r', q d r' → ∀ W' v H', Nv.Step W W' H H' → Gd B.G W' r' H' → Dp B.G W' v d → Q v H'
def tP (B : Bs) (den : DE) : TE := fun σ H Q => ∃ W env r x q, Stt B W env r σ H ∧ Xl B x ∧ den env r x q ∧
  ∀ d r', q d r' → ∀ W' v H', Nv.Step W W' H H' → Gd B.G W' r' H' → Pk B.G W' H' v d → Q v H'
/-- a fresh list, not frozen -/
def tFr (B : Bs) (den : DE) : TE := fun σ H Q => ∃ W env r x q, Stt B W env r σ H ∧ Xl B x ∧ den env r x q ∧
  ∀ d r', q d r' → ∀ W' H' a vs ds, Nv.Step W W' H H' → Gd B.G W' r' H' → d = .lst ds → H' a = some (.lst vs) → DpA B.G W' vs ds → W'.F a = none → a ∉ W'.rho → H a = none → Q (.ref a) H'
def tT (B : Bs) (den : DT) : TT := fun σ H Q => ∃ W env r x q, Stt B W env r σ H ∧ Xl B x ∧ den env r x q ∧
  ∀ d r', q d r' → ∀ W' H', Nv.Step W W' H H' → Gd B.G W' r' H' → Q d H'
def tAE (B : Bs) (n : Nat) (den : DA) : TA := fun σ H Q => ∃ W env r x q, Stt B W env r σ H ∧ Xl B x ∧ den env r x q ∧
  ∀ ds r', q ds r' → ds.length = n → ∀ W' vs H', Nv.Step W W' H H' → Gd B.G W' r' H' → DpA B.G W' vs ds → Q vs H'
def tAP (B : Bs) (den : DA) : TA := fun σ H Q => ∃ W env r x q, Stt B W env r σ H ∧ Xl B x ∧ den env r x q ∧
  ∀ ds r', q ds r' → ∀ W' vs H', Nv.Step W W' H H' → Gd B.G W' r' H' → PkA B.G W' H' vs ds → Q vs H'
def tOo (B : Bs) (den : DO) : TO := fun σ H Q => ∃ W env r x q, Stt B W env r σ H ∧ Xl B x ∧ den env r x q ∧
  ∀ o r', q o r' → ∀ W' H', Nv.Step W W' H H' → Gd B.G W' r' H' → Q o H'

theorem tE.go {den : DE} {q : D → Rs → Prop} {Q : VK} (S : Stt B W env r σ H) (hx : Xl B x) (h : den env r x q)
    (k : ∀ d r' W' v H', q d r' → Nv.Step W W' H H' → Stt B W' env r' σ H' → Dp B.G W' v d → Q v H') : tE B den σ H Q :=
  ⟨W, env, r, x, q, S, hx, h, fun d r' hq W' v H' s g p => k d r' W' v H' hq s (S.step s g) p⟩
theorem tP.go {den : DE} {q : D → Rs → Prop} {Q : VK} (S : Stt B W env r σ H) (hx : Xl B x) (h : den env r x q)
    (k : ∀ d r' W' v H', q d r' → Nv.Step W W' H H' → Stt B W' env r' σ H' → Pk B.G W' H' v d → Q v H') : tP B den σ H Q :=
  ⟨W, env, r, x, q, S, hx, h, fun d r' hq W' v H' s g p => k d r' W' v H' hq s (S.step s g) p⟩
theorem tT.go {den : DT} {q : Bool → Rs → Prop} {Q : Bool → Hp → Prop} (S : Stt B W env r σ H) (hx : Xl B x) (h : den env r x q)
    (k : ∀ d r' W' H', q d r' → Nv.Step W W' H H' → Stt B W' env r' σ H' → Q d H') : tT B den σ H Q :=
  ⟨W, env, r, x, q, S, hx, h, fun d r' hq W' H' s g => k d r' W' H' hq s (S.step s g)⟩
theorem tAE.go {n : Nat} {den : DA} {q : List D → Rs → Prop} {Q : List V → Hp → Prop} (S : Stt B W env r σ H) (hx : Xl B x) (h : den env r x q)
    (k : ∀ ds r' W' vs H', q ds r' → ds.length = n → Nv.Step W W' H H' → Stt B W' env r' σ H' → DpA B.G W' vs ds → Q vs H') : tAE B n den σ H Q :=
  ⟨W, env, r, x, q, S, hx, h, fun d r' hq hn W' v H' s g p => k d r' W' v H' hq hn s (S.step s g) p⟩
theorem tAP.go {den : DA} {q : List D → Rs → Prop} {Q : List V → Hp → Prop} (S : Stt B W env r σ H) (hx : Xl B x) (h : den env r x q)
    (k : ∀ ds r' W' vs H', q ds r' → Nv.Step W W' H H' → Stt B W' env r' σ H' → PkA B.G W' H' vs ds → Q vs H') : tAP B den σ H Q :=
  ⟨W, env, r, x, q, S, hx, h, fun d r' hq W' v H' s g p => k d r' W' v H' hq s (S.step s g) p⟩
theorem tOo.go {den : DO} {q : Option Int → Rs → Prop} {Q : Option Int → Hp → Prop} (S : Stt B W env r σ H) (hx : Xl B x) (h : den env r x q)
    (k : ∀ d r' W' H', q d r' → Nv.Step W W' H H' → Stt B W' env r' σ H' → Q d H') : tOo B den σ H Q :=
  ⟨W, env, r, x, q, S, hx, h, fun d r' hq W' H' s g => k d r' W' H' hq s (S.step s g)⟩
theorem tFr.go {den : DE} {q : D → Rs → Prop} {Q : VK} (S : Stt B W env r σ H) (hx : Xl B x) (h : den env r x q)
    (k : ∀ ds r' W' H' a vs, q (.lst ds) r' → Nv.Step W W' H H' → Stt B W' env r' σ H' → H' a = some (.lst vs) → DpA B.G W' vs ds → W'.F a = none → a ∉ W'.rho → H a = none → Q (.ref a) H') : tFr B den σ H Q :=
  ⟨W, env, r, x, q, S, hx, h, fun d r' hq W' H' a vs ds s g e h1 h2 h3 h4 h5 => k ds r' W' H' a vs (e ▸ hq) s (S.step s g) h1 h2 h3 h4 h5⟩

theorem Th.of {α : Type} {o : Option α} {q : α → Prop} (h : Th o q) : ∃ a, o = some a ∧ q a := by
  cases o with
  | none => exact h.elim
  | some a => exact ⟨a, rfl, h⟩
theorem PE.mono {X : Cx} {e : Expr} {t t' : TE} (h : PE X e t) (k : ∀ σ H Q, t' σ H Q → t σ H Q) : PE X e t' := ⟨fun pins s σ H Q I hw => h.run pins s σ H Q I (k σ H Q hw)⟩
theorem PT.mono {X : Cx} {e : Expr} {t t' : TT} (h : PT X e t) (k : ∀ σ H Q, t' σ H Q → t σ H Q) : PT X e t' := ⟨fun pins s σ H Q I hw => h.run pins s σ H Q I (k σ H Q hw)⟩
theorem PW.mono {X : Cx} {e : Expr} {t t' : TT} (h : PW X e t) (k : ∀ σ H Q, t' σ H Q → t σ H Q) : PW X e t' := ⟨fun whole pins s σ H Q I hw => h.run whole pins s σ H Q I (k σ H Q hw)⟩
theorem PA.mono {X : Cx} {e : List Expr} {t t' : TA} (h : PA X e t) (k : ∀ σ H Q, t' σ H Q → t σ H Q) : PA X e t' := ⟨fun pos pins s σ H Q I hw => h.run pos pins s σ H Q I (k σ H Q hw)⟩
theorem PO.mono {X : Cx} {e : Option Expr} {t t' : TO} (h : PO X e t) (k : ∀ σ H Q, t' σ H Q → t σ H Q) : PO X e t' := ⟨fun pins s σ H Q I hw => h.run pins s σ H Q I (k σ H Q hw)⟩
/-- what may be kept may be read -/
theorem pe_pk {X : Cx} {e : Expr} {den : DE} (h : PE X e (tE B den)) : PE X e (tP B den) := PE.mono h fun σ H Q ⟨W, env, r, x, q, S, hx, hd, k⟩ => ⟨W, env, r, x, q, S, hx, hd, fun d r' hq W' v H' s g p => k d r' hq W' v H' s g (.inl p)⟩
theorem pa_pk {X : Cx} {e : List Expr} {den : DA} (h : PA X e (tAP B den)) : PA X e (tAP B den) := h
/-- a fresh list may be read -/
theorem pe_frPk {X : Cx} {e : Expr} {den : DE} (h : PE X e (tFr B den)) : PE X e (tP B den) := PE.mono h fun σ H Q ⟨W, env, r, x, q, S, hx, hd, k⟩ => by
  refine tFr.go S hx hd ?_
  intro ds r' W' H' a vs hq s S' h1 h2 h3 h4 h5
  exact k _ _ hq W' _ H' s S'.gd (.inr ⟨a, vs, ds, rfl, rfl, h1, h2, h3, h4⟩)
/-- a fresh list is frozen -/
theorem pe_frz {X : Cx} {e : Expr} {den : DE} (h : PE X e (tFr B den)) : PE X e (tE B den) := PE.mono h fun σ H Q ⟨W, env, r, x, q, S, hx, hd, k⟩ => by
  refine tFr.go S hx hd ?_
  intro ds r' W' H' a vs hq s S' h1 h2 h3 h4 h5
  refine k _ _ hq (W'.frz a (.lst vs)) _ _ (s.frz h5 h3) (S'.gd.frz h1 h3 h4) ?_
  exact .lst frz_same (h2.mono (.frz h3))

/-! ### names, constants -/
theorem pe_varN {X : Cx} {i : Nat} {n : Str} {pos : Pos} (hN : X.N[i]? = some n) (hv : Vis X.env.scope n) (hd : (n == ("__debug__" : Str)) = false) (hcd : (n == ("__classdict__" : Str)) = false) : PE X (.Name n pos) (tE B (varD i)) :=
  PE.mono (pe_var hN hv hd hcd) fun σ H Q ⟨W, env, r, x, q, S, hx, h, k⟩ => by
    unfold varD at h
    split at h
    · rename_i d e
      obtain ⟨v, h1, h2⟩ := S.lo.at_ i _ e
      exact ⟨v, h1, k d r h W v H (.refl W H) S.gd h2⟩
    · exact h.elim
theorem pe_peekN {X : Cx} {i : Nat} {n : Str} {pos : Pos} (hN : X.N[i]? = some n) (hv : Vis X.env.scope n) (hd : (n == ("__debug__" : Str)) = false) (hcd : (n == ("__classdict__" : Str)) = false) : PE X (.Name n pos) (tP B (peekD i)) :=
  PE.mono (pe_var hN hv hd hcd) fun σ H Q ⟨W, env, r, x, q, S, hx, h, k⟩ => by
    unfold peekD at h
    split at h
    · rename_i d e
      obtain ⟨v, h1, h2⟩ := S.lo.at_ i _ e
      exact ⟨v, h1, k d r h W v H (.refl W H) S.gd (.inl h2)⟩
    · rename_i ds e
      obtain ⟨a, vs, h1, h2, h3, h4, h5, h6⟩ := S.lo.at_ i _ e
      exact ⟨_, h1, k _ r h W _ H (.refl W H) S.gd (.inr ⟨a, vs, ds, rfl, rfl, h2, h3, h4, h5⟩)⟩
    · exact h.elim
theorem pe_cN {X : Cx} {e : Expr} {d : D} {v : V} (h : PE X e (tC v)) (p : ∀ W, Dp B.G W v d) : PE X e (tE B (cD d)) :=
  PE.mono h fun σ H Q ⟨W, env, r, x, q, S, hx, h, k⟩ => k d r h W v H (.refl W H) S.gd (p W)

/-! ### operators -/
def Does (G : Sg) (f : D → D → Option D) (R : R2) : Prop := ∀ (W : Wd) (r : Rs) (H : Hp) (x y : V) (d e z : D) (Q : VK), Gd G W r H → Pr G W H x d → Pr G W H y e → f d e = some z →
  (∀ W' v H', Nv.Step W W' H H' → Gd G W' r H' → Dp G W' v z → Q v H') → R x y H Q
theorem pe_opN {X : Cx} {a b : Expr} {op : Operator} {pos : Pos} {R : R2} {f : D → D → Option D} {da db : DE} (ho : OpR X (binaryOp op) R) (hd : Does B.G f R) (ha : PE X a (tP B da)) (hb : PE X b (tP B db)) :
    PE X (.BinOp a op b pos) (tE B (opD f da db)) :=
  PE.mono (pe_op ho ha hb) fun σ H Q ⟨W, env, r, x, q, S, hx, h, k⟩ => by
    refine tP.go S hx h ?_
    intro d r1 W1 v1 H1 h1 s1 S1 p1
    refine tP.go S1 hx h1 ?_
    intro e r2 W2 v2 H2 h2 s2 S2 p2
    obtain ⟨z, ez, hz⟩ := Th.of h2
    exact hd W2 r2 H2 v1 v2 _ _ z Q S2.gd ((p1.step s2).pr S2.gd) (p2.pr S2.gd) ez fun W' v H' s g p => k z r2 hz W' v H' ((s1.trans s2).trans s) g p
theorem Does.or1 {G : Sg} {f : D → D → Option D} {R R' : R2} (h : Does G f R) : Does G f (fun x y H Q => R x y H Q ∨ R' x y H Q) := fun W r H x y d e z Q g p1 p2 ez k => .inl (h W r H x y d e z Q g p1 p2 ez k)
/-- comparisons -/
def Says (G : Sg) (f : D → D → Option Bool) (R : R2) : Prop := ∀ (W : Wd) (r : Rs) (H : Hp) (x y : V) (d e : D) (z : Bool) (Q : VK), Gd G W r H → Pr G W H x d → Pr G W H y e → f d e = some z → Q (.bl z) H → R x y H Q
theorem pe_cmpN {X : Cx} {a b : Expr} {op : CmpOp} {pos : Pos} {R : R2} {f : D → D → Option Bool} {da db : DE} (ho : OpR X (compareOp op) R) (hd : Says B.G f R) (ha : PE X a (tP B da)) (hb : PE X b (tP B db)) (hm : behindInMarks op b = false) :
    PE X (.Compare a [op] [b] pos) (tE B (opD (cmpV f) da db)) :=
  PE.mono (pe_cmpR ho ha hb hm) fun σ H Q ⟨W, env, r, x, q, S, hx, h, k⟩ => by
    refine tP.go S hx h ?_
    intro d r1 W1 v1 H1 h1 s1 S1 p1
    refine tP.go S1 hx h1 ?_
    intro e r2 W2 v2 H2 h2 s2 S2 p2
    obtain ⟨z, ez, hz⟩ := Th.of h2
    obtain ⟨b, eb, rfl⟩ := Option.map_eq_some_iff.mp ez
    exact hd W2 r2 H2 v1 v2 _ _ b Q S2.gd ((p1.step s2).pr S2.gd) (p2.pr S2.gd) eb (k _ r2 hz W2 _ H2 (s1.trans s2) S2.gd (.bl b))
theorem pt_cmpN {X : Cx} {a b : Expr} {op : CmpOp} {pos : Pos} {R : R2} {f : D → D → Option Bool} {da db : DE} (ho : OpR X (compareOp op) R) (hd : Says B.G f R) (ha : PE X a (tP B da)) (hb : PE X b (tP B db)) (hm : behindInMarks op b = false) :
    PT X (.Compare a [op] [b] pos) (tT B (cmpT f da db)) :=
  PT.mono (pt_cmpR ho ha hb hm) fun σ H Q ⟨W, env, r, x, q, S, hx, h, k⟩ => by
    refine tP.go S hx h ?_
    intro d r1 W1 v1 H1 h1 s1 S1 p1
    refine tP.go S1 hx h1 ?_
    intro e r2 W2 v2 H2 h2 s2 S2 p2
    obtain ⟨z, ez, hz⟩ := Th.of h2
    exact hd W2 r2 H2 v1 v2 _ _ z _ S2.gd ((p1.step s2).pr S2.gd) (p2.pr S2.gd) ez ⟨z, rfl, k _ r2 hz W2 H2 (s1.trans s2) S2.gd⟩
theorem chain_aux {a b c : Expr} {R R' : R2} {f f' : D → D → Option Bool} {da db dc : DE} {env : En} {r : Rs} {x : Xk} {q : Bool → Rs → Prop} {Q : VK} (hd : Says B.G f R) (hd' : Says B.G f' R') (S : Stt B W env r σ H) (hx : Xl B x)
    (h : chainT f f' da db dc env r x q) (k : ∀ c r', q c r' → ∀ W' H', Nv.Step W W' H H' → Gd B.G W' r' H' → Q (.bl c) H') : tChain R R' (tP B da) (tP B db) (tP B dc) σ H Q := by
  refine tP.go S hx h ?_
  intro d r1 W1 v1 H1 h1 s1 S1 p1
  refine tP.go S1 hx h1 ?_
  intro e r2 W2 v2 H2 h2 s2 S2 p2
  obtain ⟨z, ez, hz⟩ := Th.of h2
  refine hd W2 r2 H2 v1 v2 _ _ z _ S2.gd ((p1.step s2).pr S2.gd) (p2.pr S2.gd) ez ⟨z, rfl, ?_⟩
  cases z with
  | false => exact iteF (k _ _ hz W2 H2 (s1.trans s2) S2.gd)
  | true =>
    refine iteT ?_
    refine tP.go S2 hx hz ?_
    intro g r3 W3 v3 H3 h3 s3 S3 p3
    obtain ⟨z, ez, hz⟩ := Th.of h3
    exact hd' W3 r3 H3 v2 v3 _ _ z Q S3.gd ((p2.step s3).pr S3.gd) (p3.pr S3.gd) ez (k _ r3 hz W3 H3 ((s1.trans s2).trans s3) S3.gd)
theorem pt_chainN {X : Cx} {a b c : Expr} {op op' : CmpOp} {pos : Pos} {R R' : R2} {f f' : D → D → Option Bool} {da db dc : DE} (ho : OpR X (compareOp op) R) (ho' : OpR X (compareOp op') R') (hd : Says B.G f R) (hd' : Says B.G f' R')
    (ha : PE X a (tP B da)) (hb : PE X b (tP B db)) (hc : PE X c (tP B dc)) (hm : lastMarks [op, op'] [b, c] = false) : PT X (.Compare a [op, op'] [b, c] pos) (tT B (chainT f f' da db dc)) :=
  PT.mono (pt_chain ho ho' ha hb hc hm) fun σ H Q ⟨W, env, r, x, q, S, hx, h, k⟩ => chain_aux (a := a) (b := b) (c := c) hd hd' S hx h fun c r' hq W' H' s g => ⟨c, rfl, k c r' hq W' H' s g⟩
theorem chainD_T {f f' : D → D → Option Bool} {da db dc : DE} {env : En} {r : Rs} {x : Xk} {q : D → Rs → Prop} (h : chainD f f' da db dc env r x q) : chainT f f' da db dc env r x (fun c r => q (.bl c) r) := h
theorem pe_chainN {X : Cx} {a b c : Expr} {op op' : CmpOp} {pos : Pos} {R R' : R2} {f f' : D → D → Option Bool} {da db dc : DE} (ho : OpR X (compareOp op) R) (ho' : OpR X (compareOp op') R') (hd : Says B.G f R) (hd' : Says B.G f' R')
    (ha : PE X a (tP B da)) (hb : PE X b (tP B db)) (hc : PE X c (tP B dc)) (hm : lastMarks [op, op'] [b, c] = false) : PE X (.Compare a [op, op'] [b, c] pos) (tE B (chainD f f' da db dc)) :=
  PE.mono (pe_chain ho ho' ha hb hc hm) fun σ H Q ⟨W, env, r, x, q, S, hx, h, k⟩ => chain_aux (a := a) (b := b) (c := c) hd hd' S hx (chainD_T h) fun c r' hq W' H' s g => k _ r' hq W' _ H' s g (.bl c)
theorem pe_unN {X : Cx} {a : Expr} {op : UnaryOp} {pos : Pos} {R : V → Hp → VK → Prop} {f : D → Option D} {da : DE} (ho : UnR X (unaryOp op) R)
    (hd : ∀ (W : Wd) (H : Hp) (x : V) (d z : D) (Q : VK), Pk B.G W H x d → f d = some z → (∀ v, Dp B.G W v z → Q v H) → R x H Q) (ha : PE X a (tP B da)) : PE X (.UnaryOp op a pos) (tE B (unD f da)) :=
  PE.mono (pe_un ho ha) fun σ H Q ⟨W, env, r, x, q, S, hx, h, k⟩ => by
    refine tP.go S hx h ?_
    intro d r1 W1 v1 H1 h1 s1 S1 p1
    obtain ⟨z, ez, hz⟩ := Th.of h1
    exact hd W1 H1 v1 d z Q p1 ez fun v p => k z r1 hz W1 v H1 s1 S1.gd p

/-! ### truths -/
theorem pt_valN {X : Cx} {e : Expr} {da : DE} (h : PE X e (tP B da)) (he : ∀ whole, isTrue e X.env whole = (do let v ← whole; standAt e.pos; holding [v] (truthy v))) : PT X e (tT B (valT da)) :=
  PT.mono (pt_val h he) fun σ H Q ⟨W, env, r, x, q, S, hx, h, k⟩ => by
    refine tP.go S hx h ?_
    intro d r1 W1 v1 H1 h1 s1 S1 p1
    split at h1
    · exact ⟨_, p1.bl, k _ r1 h1 W1 H1 s1 S1.gd⟩
    · exact h1.elim
theorem pt_notN {X : Cx} {a : Expr} {pos : Pos} {t : DT} (h : PT X a (tT B t)) : PT X (.UnaryOp .Not a pos) (tT B (notT t)) :=
  PT.mono (pt_not h) fun σ H Q ⟨W, env, r, x, q, S, hx, h, k⟩ => tT.go S hx h fun d r1 W1 H1 h1 s1 S1 => k _ r1 h1 W1 H1 s1 S1.gd
theorem pw_and1N {X : Cx} {a : Expr} {pos : Pos} {t : DT} (h : PT X a (tT B t)) : PW X (.BoolOp .And [a] pos) (tT B t) := pw_and1 h
theorem pw_or1N {X : Cx} {a : Expr} {pos : Pos} {t : DT} (h : PT X a (tT B t)) : PW X (.BoolOp .Or [a] pos) (tT B t) := pw_or1 h
theorem pw_andN {X : Cx} {a b : Expr} {rest : List Expr} {pos : Pos} {t u : DT} (h : PT X a (tT B t)) (h2 : PW X (.BoolOp .And (b :: rest) pos) (tT B u)) : PW X (.BoolOp .And (a :: b :: rest) pos) (tT B (andT t u)) :=
  PW.mono (pw_and h h2) fun σ H Q ⟨W, env, r, x, q, S, hx, h, k⟩ => tT.go S hx h fun d r1 W1 H1 h1 s1 S1 => by
    cases d with
    | true => exact iteT (tT.go S1 hx h1 fun d r2 W2 H2 h2 s2 S2 => k _ r2 h2 W2 H2 (s1.trans s2) S2.gd)
    | false => exact iteF (k _ r1 h1 W1 H1 s1 S1.gd)
theorem pw_orN {X : Cx} {a b : Expr} {rest : List Expr} {pos : Pos} {t u : DT} (h : PT X a (tT B t)) (h2 : PW X (.BoolOp .Or (b :: rest) pos) (tT B u)) : PW X (.BoolOp .Or (a :: b :: rest) pos) (tT B (orT t u)) :=
  PW.mono (pw_or h h2) fun σ H Q ⟨W, env, r, x, q, S, hx, h, k⟩ => tT.go S hx h fun d r1 W1 H1 h1 s1 S1 => by
    cases d with
    | false => exact iteF (tT.go S1 hx h1 fun d r2 W2 H2 h2 s2 S2 => k _ r2 h2 W2 H2 (s1.trans s2) S2.gd)
    | true => exact iteT (k _ r1 h1 W1 H1 s1 S1.gd)
theorem pe_andN {X : Cx} {a b : Expr} {rest : List Expr} {pos : Pos} {t u : DE} (h : PE X a (tP B t)) (h2 : PE X (.BoolOp .And (b :: rest) pos) (tE B u)) : PE X (.BoolOp .And (a :: b :: rest) pos) (tE B (andD t u)) :=
  PE.mono (pe_and h h2) fun σ H Q ⟨W, env, r, x, q, S, hx, h, k⟩ => tP.go S hx h fun d r1 W1 v1 H1 h1 s1 S1 p1 => by
    split at h1
    · exact ⟨_, p1.bl, iteT (tE.go S1 hx h1 fun d r2 W2 v2 H2 h2 s2 S2 p2 => k _ r2 h2 W2 v2 H2 (s1.trans s2) S2.gd p2)⟩
    · exact ⟨_, p1.bl, iteF (k _ r1 h1 W1 _ H1 s1 S1.gd (.bl _))⟩
    · exact h1.elim
theorem pe_orN {X : Cx} {a b : Expr} {rest : List Expr} {pos : Pos} {t u : DE} (h : PE X a (tP B t)) (h2 : PE X (.BoolOp .Or (b :: rest) pos) (tE B u)) : PE X (.BoolOp .Or (a :: b :: rest) pos) (tE B (orD t u)) :=
  PE.mono (pe_or h h2) fun σ H Q ⟨W, env, r, x, q, S, hx, h, k⟩ => tP.go S hx h fun d r1 W1 v1 H1 h1 s1 S1 p1 => by
    split at h1
    · exact ⟨_, p1.bl, iteT (k _ r1 h1 W1 _ H1 s1 S1.gd (.bl _))⟩
    · exact ⟨_, p1.bl, iteF (tE.go S1 hx h1 fun d r2 W2 v2 H2 h2 s2 S2 p2 => k _ r2 h2 W2 v2 H2 (s1.trans s2) S2.gd p2)⟩
    · exact h1.elim
theorem pe_notN {X : Cx} {a : Expr} {pos : Pos} {t : DE} (h : PE X a (tP B t)) : PE X (.UnaryOp .Not a pos) (tE B (notD t)) :=
  PE.mono (pe_not h) fun σ H Q ⟨W, env, r, x, q, S, hx, h, k⟩ => tP.go S hx h fun d r1 W1 v1 H1 h1 s1 S1 p1 => by
    split at h1
    · exact ⟨_, p1.bl, k _ r1 h1 W1 _ H1 s1 S1.gd (.bl _)⟩
    · exact h1.elim
theorem pe_ifN {X : Cx} {c a b : Expr} {pos : Pos} {t : DT} {da db : DE} (h : PT X c (tT B t)) (ha : PE X a (tE B da)) (hb : PE X b (tE B db)) : PE X (.IfExp c a b pos) (tE B (ifD t da db)) :=
  PE.mono (pe_ifExp h ha hb) fun σ H Q ⟨W, env, r, x, q, S, hx, h, k⟩ => tT.go S hx h fun d r1 W1 H1 h1 s1 S1 => by
    cases d with
    | true => exact iteT (tE.go S1 hx h1 fun d r2 W2 v2 H2 h2 s2 S2 p2 => k _ r2 h2 W2 v2 H2 (s1.trans s2) S2.gd p2)
    | false => exact iteF (tE.go S1 hx h1 fun d r2 W2 v2 H2 h2 s2 S2 p2 => k _ r2 h2 W2 v2 H2 (s1.trans s2) S2.gd p2)

/-! ### argument lists, displays -/
theorem pa_nilE {X : Cx} : PA X [] (tAE B 0 nilA) := PA.mono pa_nil fun σ H Q ⟨W, env, r, x, q, S, hx, h, k⟩ => k _ r h rfl W _ H (.refl W H) S.gd .nil
theorem pa_nilP {X : Cx} : PA X [] (tAP B nilA) := PA.mono pa_nil fun σ H Q ⟨W, env, r, x, q, S, hx, h, k⟩ => k _ r h W _ H (.refl W H) S.gd .nil
theorem pa_consE {X : Cx} {e : Expr} {es : List Expr} {n : Nat} {a : DE} {as : DA} (ha : PE X e (tE B a)) (hr : PA X es (tAE B n as)) (hs : starEach (e :: es) X.env = (false, eval e X.env) :: starEach es X.env) : PA X (e :: es) (tAE B (n + 1) (consA a as)) :=
  PA.mono (pa_cons ha hr hs) fun σ H Q ⟨W, env, r, x, q, S, hx, h, k⟩ => tE.go S hx h fun d r1 W1 v1 H1 h1 s1 S1 p1 => tAE.go S1 hx h1 fun ds r2 W2 vs H2 h2 hn s2 S2 p2 =>
    k _ r2 h2 (by rw [List.length_cons, hn]) W2 _ H2 (s1.trans s2) S2.gd (.cons (p1.mono s2.le) p2)
theorem pa_consP {X : Cx} {e : Expr} {es : List Expr} {a : DE} {as : DA} (ha : PE X e (tP B a)) (hr : PA X es (tAP B as)) (hs : starEach (e :: es) X.env = (false, eval e X.env) :: starEach es X.env) : PA X (e :: es) (tAP B (consA a as)) :=
  PA.mono (pa_cons ha hr hs) fun σ H Q ⟨W, env, r, x, q, S, hx, h, k⟩ => tP.go S hx h fun d r1 W1 v1 H1 h1 s1 S1 p1 => tAP.go S1 hx h1 fun ds r2 W2 vs H2 h2 s2 S2 p2 =>
    k _ r2 h2 W2 _ H2 (s1.trans s2) S2.gd (.cons (p1.step s2) p2)
theorem pe_tupN {X : Cx} {es : List Expr} {n m : Nat} {pos : Pos} {as : DA} (h : PA X es (tAE B m as)) : PE X (.Tuple es n pos) (tE B (tupD as)) :=
  PE.mono (pe_tup h) fun σ H Q ⟨W, env, r, x, q, S, hx, h, k⟩ => tAE.go S hx h fun ds r1 W1 vs H1 h1 hn s1 S1 p1 => ⟨by rw [p1.length]; exact h1.1, fun p hp => by
    obtain ⟨g, s⟩ := S1.gd.newF (o := .tup vs) hp
    exact k _ r1 h1.2 _ _ _ (s1.trans s) g (.tup (.of frz_same) (p1.mono s.le))⟩
theorem pe_lstN {X : Cx} {es : List Expr} {m : Nat} {pos : Pos} {as : DA} (h : PA X es (tAE B m as)) : PE X (.List es pos) (tFr B (lstD as)) :=
  PE.mono (pe_lst h) fun σ H Q ⟨W, env, r, x, q, S, hx, h, k⟩ => tAE.go S hx h fun ds r1 W1 vs H1 h1 hn s1 S1 p1 => ⟨by rw [p1.length]; exact h1.1, fun p hp => by
    have hH : H p = none := Classical.byContradiction fun z => s1.dom p z hp
    exact k _ r1 h1.2 W1 _ p vs ds (s1.trans (Step.new hp)) (S1.gd.new hp) rfl upd_same p1 (S1.gd.fnone hp) (S1.gd.rnone hp) hH⟩
end
end Nv

/-! N4: operations by value keep what is said of them; subscripts, slices, built-in functions, methods. -/
namespace Nv
open PySem PySem.Spec PyProof.Rows L2
section
variable {G : Sg}
theorem doesAdd : Does G addD (fun x y H Q => rI0 (fun i j => .int (i + j)) x y H Q ∨ (∃ i j, x = .str i ∧ y = .str j ∧ i.length + j.length ≤ sizeLine ∧ Q (.str (i ++ j)) H) ∨ rCatA G.K x y H Q ∨ rCat x y H Q) := by
  intro W r H x y d e z Q g p1 p2 ez k
  unfold addD at ez
  split at ez
  · cases ez
    exact .inl ⟨_, _, p1.int, p2.int, k W _ H (.refl W H) g (.int _)⟩
  · split at ez
    · cases ez
      rename_i h
      exact .inr (.inl ⟨_, _, p1.str, p2.str, h, k W _ H (.refl W H) g (.str _)⟩)
    · cases ez
  · split at ez
    · cases ez
      rename_i h
      obtain ⟨a, vs, rfl, h1, h1F, h2⟩ := p1.tup g
      obtain ⟨b, us, rfl, k1, k1F, k2⟩ := p2.tup g
      refine .inr (.inr (.inl ⟨a, b, vs, us, rfl, rfl, h1, k1, by rw [h2.length, k2.length]; exact h, fun q => ?_, fun _ q => ?_, fun _ _ p hp => ?_⟩))
      · subst q
        cases h2
        exact k W _ H (.refl W H) g (.tup k1F k2)
      · subst q
        cases k2
        rw [List.append_nil] at k
        exact k W _ H (.refl W H) g (.tup h1F h2)
      · obtain ⟨g', s⟩ := g.newF (o := .tup (vs ++ us)) hp
        exact k _ _ _ s g' (.tup (.of frz_same) ((h2.append k2).mono s.le))
    · cases ez
  · split at ez
    · cases ez
      rename_i h
      obtain ⟨a, vs, rfl, h1, h2⟩ := p1.lst g
      obtain ⟨b, us, rfl, k1, k2⟩ := p2.lst g
      refine .inr (.inr (.inr ⟨a, b, vs, us, rfl, rfl, h1, k1, by rw [h2.length, k2.length]; exact h, fun p hp => ?_⟩))
      obtain ⟨g', s⟩ := g.newF (o := .lst (vs ++ us)) hp
      exact k _ _ _ s g' (.lst frz_same ((h2.append k2).mono s.le))
    · cases ez
  · cases ez
theorem doesSub : Does G subD (rI0 fun i j => .int (i - j)) := by
  intro W r H x y d e z Q g p1 p2 ez k
  unfold subD at ez
  split at ez
  · cases ez
    exact ⟨_, _, p1.int, p2.int, k W _ H (.refl W H) g (.int _)⟩
  · cases ez
theorem doesFdiv : Does G fdivD (rI CDiv fun i j => .int (i / j)) := by
  intro W r H x y d e z Q g p1 p2 ez k
  unfold fdivD at ez
  split at ez
  · split at ez
    · cases ez
      rename_i h
      exact ⟨_, _, p1.int, p2.int, h, k W _ H (.refl W H) g (.int _)⟩
    · cases ez
  · cases ez
theorem doesMod : Does G modD (rI (fun _ j => 0 < j) fun i j => .int (i % j)) := by
  intro W r H x y d e z Q g p1 p2 ez k
  unfold modD at ez
  split at ez
  · split at ez
    · cases ez
      rename_i h
      exact ⟨_, _, p1.int, p2.int, h, k W _ H (.refl W H) g (.int _)⟩
    · cases ez
  · cases ez
theorem doesPow : Does G powD (rI CPow fun i j => .int (i ^ j.toNat)) := by
  intro W r H x y d e z Q g p1 p2 ez k
  unfold powD at ez
  split at ez
  · split at ez
    · cases ez
      rename_i h
      exact ⟨_, _, p1.int, p2.int, h, k W _ H (.refl W H) g (.int _)⟩
    · cases ez
  · cases ez

/-- a text times an int -/
theorem repS_foldl (s : Array Nat) (n : Nat) (acc : Array Nat) : (List.replicate n s).foldl (· ++ ·) acc = acc ++ (List.replicate n s.toList).flatten.toArray := by
  induction n generalizing acc with
  | zero => simp
  | succ n ih =>
    rw [List.replicate_succ, List.foldl_cons, ih, List.replicate_succ, List.flatten_cons]
    rw [Array.append_assoc]
    congr 1
    cases s
    simp
theorem repS_length (s : Str) (n : Nat) : (repS s n).length = n * s.length := by
  show (List.replicate n s.cps.toList).flatten.toArray.size = n * s.cps.size
  rw [List.size_toArray, List.length_flatten, List.map_replicate, List.sum_replicate_nat, Array.length_toList]
def rMulS : R2 := fun x y H Q => ∃ s n, x = .str s ∧ y = .int n ∧ 0 ≤ n ∧ n ≤ 100000 ∧ s.length ≤ 100 ∧ Q (.str (repS s n.toNat)) H
theorem op_mulS {X : Cx} : OpR X (binaryOp .Mult) rMulS := by
  intro pins s σ H x y v u Q I rx ry h
  obtain ⟨z, n, rfl, rfl, h0, h1, h2, q⟩ := h
  obtain ⟨t, rfl⟩ := rx
  obtain ⟨t', rfl⟩ := ry
  have hr : (decide (n < -(2 ^ 63 : Int)) || decide (n ≥ 2 ^ 63)) = false := by
    rw [decide_eq_false (by omega), decide_eq_false (by omega)]; rfl
  have hlen : z.length * n.toNat ≤ 10000000 := Nat.le_trans (Nat.mul_le_mul h2 (by omega : n.toNat ≤ 100000)) (by decide)
  refine PySem.P.mul_str hr (fun g1 _ => ?_) (fun _ _ => ?_) ?_
  · have : (100000 : Int) ≤ (2 ^ 63 - 1) / n := by
      rw [Int.le_ediv_iff_mul_le (by omega)]
      have : (100000 : Int) * n ≤ 100000 * 100000 := Int.mul_le_mul_of_nonneg_left h1 (by decide)
      omega
    omega
  · exact decide_eq_false (by rw [sizeLine_eq]; omega)
  · by_cases g1 : n < 1
    · rw [if_pos g1]
      have e0 : n.toNat = 0 := by omega
      refine ⟨by decide, .str (repS z n.toNat), H, I.tok _, ⟨s.toks, ?_⟩, q⟩
      rw [e0]; rfl
    · rw [if_neg g1]
      by_cases g2 : (n == 1 || z.length == 0) = true
      · rw [if_pos g2]
        refine ⟨.str (repS z n.toNat), H, I, ⟨t, ?_⟩, q⟩
        congr 1
        rcases Bool.or_eq_true_iff.mp g2 with g | g
        · have : n = 1 := by simpa using g
          subst this
          cases z
          simp [repS]
        · have g : z.length = 0 := by simpa using g
          have g : z.cps.size = 0 := g
          cases z with
          | mk c =>
            have : c = #[] := Array.eq_empty_of_size_eq_zero g
            subst this
            simp [repS]
      · rw [if_neg g2]
        refine ⟨?_, .str (repS z n.toNat), H, I.tok _, ⟨s.toks, ?_⟩, q⟩
        · rw [repS_foldl]
          have e := repS_length z n.toNat
          show (#[] ++ (List.replicate n.toNat z.cps.toList).flatten.toArray).size ≤ sizeLine
          rw [Array.empty_append]
          have e : (List.replicate n.toNat z.cps.toList).flatten.toArray.size = n.toNat * z.length := e
          rw [e, Nat.mul_comm, sizeLine_eq]; omega
        · rw [repS_foldl, Array.empty_append]; rfl
theorem doesMul : Does G mulD (fun x y H Q => rI CMul (fun i j => .int (i * j)) x y H Q ∨ rMulS x y H Q) := by
  intro W r H x y d e z Q g p1 p2 ez k
  unfold mulD at ez
  split at ez
  · split at ez
    · cases ez
      rename_i h
      exact .inl ⟨_, _, p1.int, p2.int, h, k W _ H (.refl W H) g (.int _)⟩
    · cases ez
  · split at ez
    · cases ez
      rename_i h
      exact .inr ⟨_, _, p1.str, p2.int, h.1, h.2.1, h.2.2, k W _ H (.refl W H) g (.str _)⟩
    · cases ez
  · cases ez

/-! ### comparisons -/
theorem saysEq : Says G eqB (fun x y H Q => rEq x y H Q ∨ rEqD G.K x y H Q) := by
  intro W r H x y d e z Q g p1 p2 ez k
  unfold eqB eqD at ez
  split at ez
  · cases ez; exact .inl (by rw [p1.int, p2.int]; exact ⟨rfl, by simpa using k⟩)
  · cases ez; exact .inl (by rw [p1.str, p2.str]; exact ⟨rfl, by simpa using k⟩)
  · unfold eqP at ez
    split at ez
    · rename_i a b ea eb
      split at ez
      · rename_i hs
        cases ez
        rw [Bool.and_eq_true] at hs
        exact .inr ⟨a, b, p1.py g ea, p2.py g eb, hs.1, hs.2, k⟩
      · cases ez
    · cases ez
theorem saysNe : Says G neB (fun x y H Q => rNe x y H Q ∨ rNeD G.K x y H Q) := by
  intro W r H x y d e z Q g p1 p2 ez k
  unfold neB eqD at ez
  split at ez
  · cases ez; exact .inl (by rw [p1.int, p2.int]; exact ⟨rfl, by simpa using k⟩)
  · cases ez; exact .inl (by rw [p1.str, p2.str]; exact ⟨rfl, by simpa using k⟩)
  · unfold eqP at ez
    split at ez
    · rename_i a b ea eb
      split at ez
      · rename_i hs
        cases ez
        rw [Bool.and_eq_true] at hs
        exact .inr ⟨a, b, p1.py g ea, p2.py g eb, hs.1, hs.2, k⟩
      · cases ez
    · cases ez
theorem saysLt : Says G ltB (fun x y H Q => rI0 (fun i j => .bl (decide (i < j))) x y H Q ∨ ∃ i j, x = .str i ∧ y = .str j ∧ Q (.bl (decide (i.cps.toList < j.cps.toList))) H) := by
  intro W r H x y d e z Q g p1 p2 ez k
  unfold ltB at ez
  split at ez
  · cases ez; exact .inl ⟨_, _, p1.int, p2.int, k⟩
  · cases ez; exact .inr ⟨_, _, p1.str, p2.str, k⟩
  · cases ez
theorem saysLe : Says G leB (fun x y H Q => rI0 (fun i j => .bl (decide (i ≤ j))) x y H Q ∨ ∃ i j, x = .str i ∧ y = .str j ∧ Q (.bl (!decide (j.cps.toList < i.cps.toList))) H) := by
  intro W r H x y d e z Q g p1 p2 ez k
  unfold leB at ez
  split at ez
  · cases ez; exact .inl ⟨_, _, p1.int, p2.int, k⟩
  · cases ez; exact .inr ⟨_, _, p1.str, p2.str, k⟩
  · cases ez
theorem saysGt : Says G gtB (rI0 fun i j => .bl (decide (j < i))) := by
  intro W r H x y d e z Q g p1 p2 ez k
  unfold gtB at ez
  split at ez
  · cases ez; exact ⟨_, _, p1.int, p2.int, k⟩
  · cases ez
theorem saysGe : Says G geB (rI0 fun i j => .bl (decide (j ≤ i))) := by
  intro W r H x y d e z Q g p1 p2 ez k
  unfold geB at ez
  split at ez
  · cases ez; exact ⟨_, _, p1.int, p2.int, k⟩
  · cases ez
theorem Pr.isNone {W : Wd} {H : Hp} {v : V} {d : D} (p : Pr G W H v d) : decide (v = .non) = Nv.isNone d := by
  rcases p with (p | ⟨a, vs, ds, rfl, rfl, _⟩) | ⟨a, vs, ds, rfl, rfl, _⟩
  · cases p <;> simp [Nv.isNone]
  · simp [Nv.isNone]
  · simp [Nv.isNone]
theorem saysIs : Says G isB (fun x y H Q => y = .non ∧ Q (.bl (decide (x = .non))) H) := by
  intro W r H x y d e z Q g p1 p2 ez k
  unfold isB at ez
  split at ez
  · cases ez; exact ⟨p2.non, by rw [p1.isNone]; exact k⟩
  · cases ez
theorem saysIsnt : Says G isntB (fun x y H Q => y = .non ∧ Q (.bl (!decide (x = .non))) H) := by
  intro W r H x y d e z Q g p1 p2 ez k
  unfold isntB at ez
  split at ez
  · cases ez; exact ⟨p2.non, by rw [p1.isNone]; exact k⟩
  · cases ez

def rInT (K : PySem.W.Frag) : R2 := fun x y H Q => ∃ d ds, L2.Dp K H x d ∧ L2.Dp K H y (.tuple ds) ∧ SeqAt.shaped d = true ∧ SeqAt.shaped (.tuple ds) = true ∧ Q (.bl (ds.any fun z => PyData.eqv z d)) H
def rNinT (K : PySem.W.Frag) : R2 := fun x y H Q => ∃ d ds, L2.Dp K H x d ∧ L2.Dp K H y (.tuple ds) ∧ SeqAt.shaped d = true ∧ SeqAt.shaped (.tuple ds) = true ∧ Q (.bl (!ds.any fun z => PyData.eqv z d)) H
theorem op_inT {X : Cx} (hu : X.A.units + 65 < cLine) : OpR X (compareOp .In) (rInT X.K) := by
  rintro pins s σ H x y v u Q I rx ry ⟨d, ds, hd, he, sd, se, q⟩
  obtain ⟨as, r1⟩ := L2.Dp.reads I d x v hd rx
  obtain ⟨bs, r2⟩ := L2.Dp.reads I (.tuple ds) y u he ry
  exact SeqAt.in_tuple_reads r2 r1 (SeqAt.canLay_of_shaped se) (SeqAt.canLay_of_shaped sd) (room_in_shaped sd hu) ⟨.bl _, H, I, rfl, q⟩
theorem op_ninT {X : Cx} (hu : X.A.units + 65 < cLine) : OpR X (compareOp .NotIn) (rNinT X.K) := by
  rintro pins s σ H x y v u Q I rx ry ⟨d, ds, hd, he, sd, se, q⟩
  obtain ⟨as, r1⟩ := L2.Dp.reads I d x v hd rx
  obtain ⟨bs, r2⟩ := L2.Dp.reads I (.tuple ds) y u he ry
  exact SeqAt.notIn_tuple_reads r2 r1 (SeqAt.canLay_of_shaped se) (SeqAt.canLay_of_shaped sd) (room_in_shaped sd hu) ⟨.bl _, H, I, rfl, q⟩
abbrev rInA (K : PySem.W.Frag) : R2 := fun x y H Q => (∃ i j, x = .str i ∧ y = .str j ∧ Q (.bl (!(Builtin.Str.occurrences j i 0 j.length 1).isEmpty)) H) ∨ rInD K x y H Q ∨ rInT K x y H Q
abbrev rNinA (K : PySem.W.Frag) : R2 := fun x y H Q => (∃ i j, x = .str i ∧ y = .str j ∧ Q (.bl (!(!(Builtin.Str.occurrences j i 0 j.length 1).isEmpty))) H) ∨ rNotInD K x y H Q ∨ rNinT K x y H Q
theorem op_inA {X : Cx} (hu : X.A.units + 65 < cLine) : OpR X (compareOp .In) (rInA X.K) := op_in_str.or ((op_inD hu).or (op_inT hu))
theorem op_ninA {X : Cx} (hu : X.A.units + 65 < cLine) : OpR X (compareOp .NotIn) (rNinA X.K) := op_notin_str.or ((op_notInD hu).or (op_ninT hu))
theorem pyAll_lst {es : List D} {bs : List PyData} (h : D.pyAll es = some bs) : (D.lst es).py = some (.list bs) := by simp only [D.py, h, Option.map_some]
theorem pyAll_tup {es : List D} {bs : List PyData} (h : D.pyAll es = some bs) : (D.tup es).py = some (.tuple bs) := by simp only [D.py, h, Option.map_some]
theorem saysIn : Says G inB (rInA G.K) := by
  intro W r H x y d e z Q g p1 p2 ez k
  unfold inB at ez
  split at ez
  · cases ez; exact .inl ⟨_, _, p1.str, p2.str, k⟩
  · split at ez
    · rename_i a bs ea eb
      split at ez
      · rename_i hs
        cases ez
        rw [Bool.and_eq_true] at hs
        exact .inr (.inl ⟨a, bs, p1.py g ea, p2.py g (pyAll_lst eb), hs.1, hs.2, k⟩)
      · cases ez
    · cases ez
  · split at ez
    · rename_i a bs ea eb
      split at ez
      · rename_i hs
        cases ez
        rw [Bool.and_eq_true] at hs
        exact .inr (.inr ⟨a, bs, p1.py g ea, p2.py g (pyAll_tup eb), hs.1, hs.2, k⟩)
      · cases ez
    · cases ez
  · cases ez
theorem saysNin : Says G ninB (rNinA G.K) := by
  intro W r H x y d e z Q g p1 p2 ez k
  have ez' : (inB d e).map not = some z := ez
  clear ez
  obtain ⟨z, ez, rfl⟩ := Option.map_eq_some_iff.mp ez'
  clear ez'
  unfold inB at ez
  split at ez
  · cases ez; exact .inl ⟨_, _, p1.str, p2.str, k⟩
  · split at ez
    · rename_i a bs ea eb
      split at ez
      · rename_i hs
        cases ez
        rw [Bool.and_eq_true] at hs
        exact .inr (.inl ⟨a, bs, p1.py g ea, p2.py g (pyAll_lst eb), hs.1, hs.2, k⟩)
      · cases ez
    · cases ez
  · split at ez
    · rename_i a bs ea eb
      split at ez
      · rename_i hs
        cases ez
        rw [Bool.and_eq_true] at hs
        exact .inr (.inr ⟨a, bs, p1.py g ea, p2.py g (pyAll_tup eb), hs.1, hs.2, k⟩)
      · cases ez
    · cases ez
  · cases ez

/-! ### subscripts -/
theorem atI_get {α : Type} {xs : List α} {i : Int} {x : α} : atI xs i = some x ↔ ∃ j, ixN xs.length i = some j ∧ xs[j]? = some x := by
  unfold atI
  rw [Option.bind_eq_some_iff]
theorem DpA.atI {W : Wd} {vs : List V} {ds : List D} (h : DpA G W vs ds) {i : Int} {d : D} (e : L2.atI ds i = some d) : ∃ v, L2.atI vs i = some v ∧ Dp G W v d := by
  obtain ⟨j, h1, h2⟩ := atI_get.mp e
  obtain ⟨v, h3, h4⟩ := h.get h2
  exact ⟨v, atI_get.mpr ⟨j, by rw [h.length]; exact h1, h3⟩, h4⟩
theorem doesIdx : Does G idxV (rIx G.K) := by
  intro W r H x y d e z Q g p1 p2 ez k
  unfold idxV at ez
  split at ez
  · obtain ⟨a, vs, rfl, h1, h2⟩ := p1.lst g
    obtain ⟨v, h3, h4⟩ := h2.atI ez
    exact .inl ⟨a, vs, _, v, rfl, p2.int, .of h1, h3, k W v H (.refl W H) g h4⟩
  · obtain ⟨a, vs, rfl, h1, _, h2⟩ := p1.tup g
    obtain ⟨v, h3, h4⟩ := h2.atI ez
    exact .inr (.inl ⟨a, vs, _, v, rfl, p2.int, h1, h3, k W v H (.refl W H) g h4⟩)
  · split at ez
    · rename_i hl
      obtain ⟨c, h1, rfl⟩ := Option.map_eq_some_iff.mp ez
      exact .inr (.inr ⟨_, _, c, p1.str, p2.int, hl, h1, k W _ H (.refl W H) g (.str _)⟩)
    · cases ez
  · cases ez
theorem DpA.ints {W : Wd} : ∀ ns : List Int, DpA G W (ns.map V.int) (ns.map D.int)
  | [] => .nil
  | n :: ns => .cons (.int n) (DpA.ints ns)
theorem DpA.cut {W : Wd} {vs : List V} {ds : List D} (h : DpA G W vs ds) (lo hi : Option Int) : DpA G W (cutV vs lo hi) (cutD ds lo hi) := by
  unfold cutV cutD
  rw [h.length]
  exact (h.drop _).take _
theorem cutD_whole {ds : List D} {lo hi : Option Int} (h : HT.sIx ds.length 0 lo = 0 ∧ HT.sIx ds.length ds.length hi = ds.length) : cutD ds lo hi = ds := by
  unfold cutD
  rw [h.1, h.2]; simp
end
section
variable {B : Bs} {X : Cx} {pos : Pos}
theorem pe_idxN {a b : Expr} {da db : DE} (hK : X.K = B.G.K) (ha : PE X a (tP B da)) (hb : PE X b (tP B db)) (hs : PlainIx b) : PE X (.Subscript a b pos) (tE B (opD idxV da db)) :=
  PE.mono (pe_ix ix_seq ha hb hs) fun σ H Q ⟨W, env, r, x, q, S, hx, h, k⟩ => by
    refine tP.go S hx h ?_
    intro d r1 W1 v1 H1 h1 s1 S1 p1
    refine tP.go S1 hx h1 ?_
    intro e r2 W2 v2 H2 h2 s2 S2 p2
    obtain ⟨z, ez, hz⟩ := Th.of h2
    rw [hK]
    exact doesIdx W2 r2 H2 v1 v2 _ _ z Q S2.gd ((p1.step s2).pr S2.gd) (p2.pr S2.gd) ez fun W' v H' s g p => k z r2 hz W' v H' ((s1.trans s2).trans s) g p
theorem po_noneN : PO X none (tOo B noO) := PO.mono po_none fun σ H Q ⟨W, env, r, x, q, S, hx, h, k⟩ => k _ r h W H (.refl W H) S.gd
theorem po_someN {e : Expr} {a : DE} (h : PE X e (tP B a)) : PO X (some e) (tOo B (someO a)) := PO.mono (po_some h) fun σ H Q ⟨W, env, r, x, q, S, hx, h, k⟩ => by
  refine tP.go S hx h ?_
  intro d r1 W1 v1 H1 h1 s1 S1 p1
  split at h1
  · exact ⟨_, p1.int, k _ r1 h1 W1 H1 s1 S1.gd⟩
  · exact h1.elim
/-- slices of tuples and texts (a list's slice is fresh) -/
def rSlTS (K : PySem.W.Frag) : V → Option Int → Option Int → Hp → VK → Prop := fun x lo hi H Q => rSlL K x lo hi H Q ∨ rSlA K x lo hi H Q ∨ rSlS x lo hi H Q
theorem pe_slcN {e : Expr} {lo hi : Option Expr} {p2 : Pos} {a : DE} {dl dh : DO} (hK : X.K = B.G.K) (he : PE X e (tP B a)) (hl : PO X lo (tOo B dl)) (hu : PO X hi (tOo B dh)) : PE X (.Subscript e (.Slice lo hi none p2) pos) (tE B (slcD a dl dh)) :=
  PE.mono (pe_slice (r := rSlTS X.K) (SlR.or sl_list (SlR.or sl_tupA sl_str)) he hl hu) fun σ H Q ⟨W, env, r, x, q, S, hx, h, k⟩ => by
    refine tP.go S hx h ?_
    intro d r1 W1 v1 H1 h1 s1 S1 p1
    refine tOo.go S1 hx h1 ?_
    intro l r2 W2 H2 h2 s2 S2
    refine tOo.go S2 hx h2 ?_
    intro u r3 W3 H3 h3 s3 S3
    obtain ⟨z, ez, hz⟩ := Th.of h3
    have p3 := ((p1.step s2).step s3).pr S3.gd
    have s13 := (s1.trans s2).trans s3
    generalize deref r3 d = d at ez p3
    rw [hK]
    unfold slcV at ez
    split at ez
    · cases ez
      obtain ⟨a, vs, rfl, h1, h2⟩ := p3.lst S3.gd
      refine .inl ⟨a, vs, rfl, .of h1, fun p hp => ?_⟩
      obtain ⟨g', s⟩ := S3.gd.newF (o := .lst (cutV vs l u)) hp
      exact k _ _ hz _ _ _ (s13.trans s) g' (.lst frz_same ((h2.cut l u).mono s.le))
    · cases ez
      obtain ⟨a, vs, rfl, h1, h1F, h2⟩ := p3.tup S3.gd
      refine .inr (.inl ⟨a, vs, rfl, h1, fun hw => ?_, fun _ p hp => ?_⟩)
      · rw [h2.length] at hw
        rw [cutD_whole hw] at hz
        exact k _ _ hz W3 _ H3 s13 S3.gd (.tup h1F h2)
      · obtain ⟨g', s⟩ := S3.gd.newF (o := .tup (cutV vs l u)) hp
        exact k _ _ hz _ _ _ (s13.trans s) g' (.tup (.of frz_same) ((h2.cut l u).mono s.le))
    · cases ez
      rename_i ns
      obtain ⟨a, rfl, h1⟩ := p3.scr S3.gd
      refine .inl ⟨a, _, rfl, h1, fun p hp => ?_⟩
      obtain ⟨g', s⟩ := S3.gd.newF (o := .lst (cutV (ns.map V.int) l u)) hp
      have ha : DpA B.G W3 (ns.map V.int) (ns.map D.int) := DpA.ints ns
      exact k _ _ hz _ _ _ (s13.trans s) g' (.lst frz_same ((ha.cut l u).mono s.le))
    · split at ez
      · cases ez
        rename_i hl
        exact .inr (.inr ⟨_, p3.str, hl, k _ _ hz W3 _ H3 s13 S3.gd (.str _)⟩)
      · cases ez
    · cases ez

/-! ### built-in functions -/
inductive PrA (G : Sg) (W : Wd) (H : Hp) : List V → List D → Prop
  | nil : PrA G W H [] []
  | cons {v : V} {vs : List V} {d : D} {ds : List D} : Pr G W H v d → PrA G W H vs ds → PrA G W H (v :: vs) (d :: ds)
theorem PkA.pr {G : Sg} {W : Wd} {H : Hp} {r : Rs} (g : Gd G W r H) {vs : List V} {ds : List D} (h : PkA G W H vs ds) : PrA G W H vs (ds.map (deref r)) := by
  induction h with
  | nil => exact .nil
  | cons h1 _ ih => exact .cons (h1.pr g) ih
/-- what a built-in does to what is read -/
def DoesB (G : Sg) (f : List D → Option D) (R : List V → Hp → VK → Prop) : Prop := ∀ (W : Wd) (r : Rs) (H : Hp) (xs : List V) (ds : List D) (z : D) (Q : VK), Gd G W r H → PrA G W H xs ds → f ds = some z →
  (∀ W' v H', Nv.Step W W' H H' → Gd G W' r H' → Dp G W' v z → Q v H') → R xs H Q
theorem blt_aux {f : List D → Option D} {R : List V → Hp → VK → Prop} {as : DA} (hd : DoesB B.G f R) {σ : L2.St} {H : Hp} {Q : VK} (h : tE B (bltD f as) σ H Q) : tCB R (tAP B as) σ H Q := by
  obtain ⟨W, env, r, x, q, S, hx, h, k⟩ := h
  refine tAP.go S hx h ?_
  intro ds r1 W1 vs H1 h1 s1 S1 p1
  obtain ⟨z, ez, hz⟩ := Th.of h1
  exact hd W1 r1 H1 vs _ z Q S1.gd (p1.pr S1.gd) ez fun W' v H' s g p => k z r1 hz W' v H' (s1.trans s) g p
theorem pe_bltB {n : Str} {p : Pos} {e : Expr} {es : List Expr} {id : String} {f : List D → Option D} {R : List V → Hp → VK → Prop} {as : DA} (hc : CallR X (.builtin id) R) (hd : DoesB B.G f R) (hg : Gl X n) (hm : X.mg n = none)
    (hv : bootBuiltins n = some (.builtin id)) (ha : PA X (e :: es) (tAP B as)) (hn : n ≠ "__name__") (hdb : (n == ("__debug__" : Str)) = false)
    (he : starEach (e :: es) X.env = (false, eval e X.env) :: starEach es X.env) (hpl : (backTo pos (starEach es X.env)).any (·.1) = false) : PE X (.Call (.Name n p) (e :: es) [] pos) (tE B (bltD f as)) :=
  PE.mono (pe_callB hc hg hm hv ha hn hdb he hpl) fun σ H Q h => blt_aux hd h
theorem pe_bltT {n : Str} {p : Pos} {e : Expr} {es : List Expr} {id : String} {f : List D → Option D} {R : List V → Hp → VK → Prop} {as : DA} (hc : CallR X (.type id) R) (hd : DoesB B.G f R) (hg : Gl X n) (hm : X.mg n = none)
    (hv : bootBuiltins n = some (.type id)) (ha : PA X (e :: es) (tAP B as)) (hn : n ≠ "__name__") (hdb : (n == ("__debug__" : Str)) = false)
    (he : starEach (e :: es) X.env = (false, eval e X.env) :: starEach es X.env) (hpl : (backTo pos (starEach es X.env)).any (·.1) = false) : PE X (.Call (.Name n p) (e :: es) [] pos) (tE B (bltD f as)) :=
  PE.mono (pe_callTy hc hg hm hv ha hn hdb he hpl) fun σ H Q h => blt_aux hd h
end
section
variable {G : Sg}
theorem PrA.one {W : Wd} {H : Hp} {xs : List V} {d : D} (h : PrA G W H xs [d]) : ∃ v, xs = [v] ∧ Pr G W H v d := by
  cases h with | cons h1 h2 => cases h2; exact ⟨_, rfl, h1⟩
theorem PrA.two {W : Wd} {H : Hp} {xs : List V} {d e : D} (h : PrA G W H xs [d, e]) : ∃ v u, xs = [v, u] ∧ Pr G W H v d ∧ Pr G W H u e := by
  cases h with | cons h1 h2 => cases h2 with | cons h2 h3 => cases h3; exact ⟨_, _, rfl, h1, h2⟩
theorem doesLen : DoesB G lenF (fun xs H Q => ∃ x n, xs = [x] ∧ LenV G.K x H n ∧ Q (.int n) H) := by
  intro W r H xs ds z Q g p ez k
  unfold lenF at ez
  split at ez
  · cases ez
    obtain ⟨v, rfl, p1⟩ := p.one
    obtain ⟨a, vs, rfl, h1, h2⟩ := p1.lst g
    exact ⟨_, vs.length, rfl, .inl ⟨vs, .of h1, rfl⟩, by rw [h2.length]; exact k W _ H (.refl W H) g (.int _)⟩
  · cases ez
    obtain ⟨v, rfl, p1⟩ := p.one
    obtain ⟨a, vs, rfl, h1, _, h2⟩ := p1.tup g
    exact ⟨_, vs.length, rfl, .inr ⟨vs, h1, rfl⟩, by rw [h2.length]; exact k W _ H (.refl W H) g (.int _)⟩
  · cases ez
    rename_i ns
    obtain ⟨v, rfl, p1⟩ := p.one
    obtain ⟨a, rfl, h1⟩ := p1.scr g
    exact ⟨_, (ns.map V.int).length, rfl, .inl ⟨_, h1, rfl⟩, by rw [List.length_map]; exact k W _ H (.refl W H) g (.int _)⟩
  · split at ez
    · cases ez
      rename_i hl
      obtain ⟨v, rfl, p1⟩ := p.one
      have := p1.str
      subst this
      exact ⟨_, _, rfl, ⟨hl, rfl⟩, k W _ H (.refl W H) g (.int _)⟩
    · cases ez
  · cases ez
theorem doesAbs : DoesB G absF (fun xs H Q => ∃ i, xs = [.int i] ∧ Q (.int (if i < 0 then -i else i)) H) := by
  intro W r H xs ds z Q g p ez k
  unfold absF at ez
  split at ez
  · cases ez
    obtain ⟨v, rfl, p1⟩ := p.one
    have := p1.int
    subst this
    exact ⟨_, rfl, k W _ H (.refl W H) g (.int _)⟩
  · cases ez
theorem doesInt : DoesB G intF (fun xs H Q => (∃ i, xs = [.int i] ∧ Q (.int i) H) ∨ ∃ k, xs = [.bl k] ∧ Q (.int (if k then 1 else 0)) H) := by
  intro W r H xs ds z Q g p ez k
  unfold intF at ez
  split at ez
  · cases ez
    obtain ⟨v, rfl, p1⟩ := p.one
    have := p1.int
    subst this
    exact .inl ⟨_, rfl, k W _ H (.refl W H) g (.int _)⟩
  · cases ez
    obtain ⟨v, rfl, p1⟩ := p.one
    have := p1.bl
    subst this
    exact .inr ⟨_, rfl, k W _ H (.refl W H) g (.int _)⟩
  · cases ez
theorem doesMax2 : DoesB G max2F (fun xs H Q => ∃ i j, xs = [.int i, .int j] ∧ Q (.int (if j > i then j else i)) H) := by
  intro W r H xs ds z Q g p ez k
  unfold max2F at ez
  split at ez
  · cases ez
    obtain ⟨v, u, rfl, p1, p2⟩ := p.two
    have := p1.int
    subst this
    have := p2.int
    subst this
    exact ⟨_, _, rfl, k W _ H (.refl W H) g (.int _)⟩
  · cases ez
theorem doesMin2 : DoesB G min2F (fun xs H Q => ∃ i j, xs = [.int i, .int j] ∧ Q (.int (if j < i then j else i)) H) := by
  intro W r H xs ds z Q g p ez k
  unfold min2F at ez
  split at ez
  · cases ez
    obtain ⟨v, u, rfl, p1, p2⟩ := p.two
    have := p1.int
    subst this
    have := p2.int
    subst this
    exact ⟨_, _, rfl, k W _ H (.refl W H) g (.int _)⟩
  · cases ez
theorem doesTup : DoesB G tupF (fun xs H Q => ∃ p ys, xs = [.ref p] ∧ ((SqL G.K H p ys ∧ ∀ l, H l = none → Q (.ref l) (upd H l (.tup ys))) ∨ (SqT G.K H p ys ∧ Q (.ref p) H))) := by
  intro W r H xs ds z Q g p ez k
  unfold tupF at ez
  split at ez
  · cases ez
    obtain ⟨v, rfl, p1⟩ := p.one
    obtain ⟨a, vs, rfl, h1, h2⟩ := p1.lst g
    refine ⟨a, vs, rfl, .inl ⟨.of h1, fun l hl => ?_⟩⟩
    obtain ⟨g', s⟩ := g.newF (o := .tup vs) hl
    exact k _ _ _ s g' (.tup (.of frz_same) (h2.mono s.le))
  · cases ez
    obtain ⟨v, rfl, p1⟩ := p.one
    obtain ⟨a, vs, rfl, h1, h1F, h2⟩ := p1.tup g
    exact ⟨a, vs, rfl, .inr ⟨h1, k W _ H (.refl W H) g (.tup h1F h2)⟩⟩
  · cases ez
/-! repr -/
def rRepr (K : PySem.W.Frag) : List V → Hp → VK → Prop := fun xs H Q => ∃ v p, xs = [v] ∧ L2.Dp K H v p ∧ p.showable = true ∧ p.hasDict = false ∧ p.depth ≤ 60 ∧ p.shown.length ≤ sizeLine ∧ Q (.str p.shown) H
theorem call_reprD {X : Cx} {k : Nat} (hr : Room k X.A) (hgd : X.A.guards = some []) : CallR X (.builtin "repr") (rRepr X.K) := by
  intro pins s σ H xs us Q I rv h
  obtain ⟨v, p, rfl, hp, h1, h2, h3, h4, q⟩ := h
  cases rv with
  | cons r1 r2 =>
    cases r2
    obtain ⟨as, rd⟩ := L2.Dp.reads I p v _ hp r1
    have hu := hr.units
    cases hp with
    | non => cases r1; exact PySem.P.repr_of_none ⟨.str _, H, I.tok _, ⟨_, rfl⟩, q⟩
    | bl b =>
      cases r1
      refine PySem.P.repr_of_bool ⟨.str _, H, I.tok _, ⟨s.toks, ?_⟩, q⟩
      cases b <;> rfl
    | int i => obtain ⟨t, rfl⟩ := r1; exact PySem.P.repr_of_int (by simpa [PyData.showable] using h1) ⟨.str _, H, I.tok _, ⟨_, rfl⟩, q⟩
    | str x => obtain ⟨t, rfl⟩ := r1; exact PySem.P.repr_of_str ⟨.str _, H, I.tok _, ⟨_, rfl⟩, q⟩ h4
    | lst _ _ =>
      cases r1
      exact repr_of_reads' rd h1 (PyData.noDict_hsm h2) hgd (by omega) (fun _ _ e => e) (fun h' u tk hk => ⟨.str _, H, I.kept hk, ⟨_, rfl⟩, q⟩) h4
    | tup _ _ =>
      cases r1
      exact repr_of_reads' rd h1 (PyData.noDict_hsm h2) hgd (by omega) (fun _ _ e => e) (fun h' u tk hk => ⟨.str _, H, I.kept hk, ⟨_, rfl⟩, q⟩) h4
theorem doesRepr : DoesB G reprF (rRepr G.K) := by
  intro W r H xs ds z Q g p ez k
  unfold reprF at ez
  split at ez
  · obtain ⟨v, rfl, p1⟩ := p.one
    obtain ⟨t, et, rfl⟩ := Option.map_eq_some_iff.mp ez
    unfold reprOf at et
    split at et
    · rename_i a ea
      split at et
      · rename_i hs
        cases et
        simp only [Bool.and_eq_true, decide_eq_true_eq, Bool.not_eq_true'] at hs
        obtain ⟨⟨⟨h1, h2⟩, h3⟩, h4⟩ := hs
        exact ⟨v, a, rfl, p1.py g ea, h1, h2, h3, h4, k W _ H (.refl W H) g (.str _)⟩
      · cases et
    · cases et
  · cases ez

/-! sep.join(texts) -/
theorem DpA.strs {W : Wd} : ∀ {vs : List V} {ds : List D} {ys : List Str}, DpA G W vs ds → strsOf ds = some ys → vs = ys.map V.str
  | _, [], ys, h, e => by
    cases h
    simp only [strsOf, Option.some.injEq] at e
    subst e
    rfl
  | _, d :: ds, ys, h, e => by
    cases h with
    | cons h1 h2 =>
      cases d with
      | str s =>
        simp only [strsOf] at e
        obtain ⟨zs, e1, rfl⟩ := Option.map_eq_some_iff.mp e
        cases h1
        rw [List.map_cons, DpA.strs h2 e1]
      | _ => simp [strsOf] at e
end
section
variable {B : Bs} {X : Cx} {pos : Pos}
theorem pe_joinN {s : Str} {k : Nat} {cp apos : Pos} {e : Expr} {a : DE} (hK : X.K = B.G.K) (ha : PE X e (tP B a)) (hs : starEach [e] X.env = [(false, eval e X.env)]) (hline : (apos.endLine == pos.line) = true) :
    PE X (.Call (.Attribute (.Constant (.str s) k cp) "join" apos) [e] [] pos) (tE B (methD joinF (cD (.str s)) (consA a nilA))) := by
  refine PE.mono (pe_join (pe_str) ha hs rfl hline) fun σ H Q ⟨W, env, r, x, q, S, hx, h, k⟩ => ?_
  refine ⟨⟨s, rfl⟩, ?_⟩
  refine tP.go S hx h ?_
  intro d r1 W1 v1 H1 h1 s1 S1 p1
  obtain ⟨z, ez, hz⟩ := Th.of (show Th (joinF (.str s) [deref r1 d]) (fun z => q z r1) from h1)
  have p1 := p1.pr S1.gd
  generalize deref r1 d = d at ez p1
  unfold joinF at ez
  split at ez
  · rename_i ds e
    cases e
    split at ez
    · rename_i a ys ea ey
      cases ea
      split at ez
      · rename_i hl
        cases ez
        obtain ⟨b, vs, rfl, g1, g2⟩ := p1.lst S1.gd
        have := g2.strs ey
        subst this
        exact ⟨s, b, ys, rfl, rfl, .inl (.of g1), hl, k _ _ hz W1 _ H1 s1 S1.gd (.str _)⟩
      · cases ez
    · cases ez
  · rename_i ds e
    cases e
    split at ez
    · rename_i a ys ea ey
      cases ea
      split at ez
      · rename_i hl
        cases ez
        obtain ⟨b, vs, rfl, g1, _, g2⟩ := p1.tup S1.gd
        have := g2.strs ey
        subst this
        exact ⟨s, b, ys, rfl, rfl, .inr (by rw [hK]; exact g1), hl, k _ _ hz W1 _ H1 s1 S1.gd (.str _)⟩
      · cases ez
    · cases ez
  · cases ez
/-! ### shared lists changed -/
theorem pe_popR {o : Expr} {apos cpos : Pos} {a : DE} (ho : PE X o (tP B a)) (hbase : attributeBase o "pop" X.env (eval o X.env) = eval o X.env) (hline : (apos.endLine == cpos.line) = true) : PE X (.Call (.Attribute o "pop" apos) [] [] cpos) (tE B (popR a)) :=
  PE.mono (pe_bm0 PySem.F.plainAttrs_list PySem.F.slot_list_pop PySem.F.type_list_pop mt_pop ho hbase hline) fun σ H Q ⟨W, env, r, x, q, S, hx, h, k⟩ => tP.go S hx h fun d r1 W1 v1 H1 h1 s1 S1 p1 => by
    split at h1
    · rename_i n
      split at h1
      · rename_i ds e
        split at h1
        · rename_i y ey
          obtain ⟨b, vs, rfl, g1, g2, g3⟩ := S1.gd.shared p1.ref e
          have hl := g3.length
          have ey' : ds[ds.length - 1]? = some y := by rw [← List.getLast?_eq_getElem?]; exact ey
          obtain ⟨v, e3, p3⟩ := g3.get ey'
          refine ⟨.inl ⟨rfl, vs, .of g2⟩, b, vs, v, rfl, rfl, g2, by rw [hl]; exact e3, ?_⟩
          have pd : DpA B.G W1 vs.dropLast ds.dropLast := by
            rw [List.dropLast_eq_take, List.dropLast_eq_take, hl]
            exact g3.take _
          exact k _ _ h1 W1 v _ (s1.trans (Step.put g1)) (S1.gd.put g1 pd) p3
        · exact h1.elim
      · exact h1.elim
    · exact h1.elim
theorem pe_apR {o e : Expr} {apos cpos : Pos} {a b : DE} (ho : PE X o (tP B a)) (he : PE X e (tE B b)) (hbase : attributeBase o "append" X.env (eval o X.env) = eval o X.env)
    (hfew : ((backTo cpos (starEach [e] X.env)).all (fun x => !x.1) && (backToKw cpos (keywordEach [] X.env)).all (fun x => x.1.isSome) && decide ([e].length + ([] : List Keyword).length + (if ([] : List Keyword).isEmpty then 0 else 1) < 30)) = true)
    (hline : (apos.endLine == cpos.line) = true) (hs : starEach [e] X.env = (false, eval e X.env) :: starEach [] X.env) (hpl : (backTo cpos (starEach [] X.env)).any (·.1) = false) : PE X (.Call (.Attribute o "append" apos) [e] [] cpos) (tE B (apR a b)) :=
  PE.mono (pe_bm PySem.F.plainAttrs_list PySem.F.slot_list_append PySem.F.type_list_append mt_append ho (pa_cons he pa_nil hs) hbase hfew hline hs hpl) fun σ H Q ⟨W, env, r, x, q, S, hx, h, k⟩ => tP.go S hx h fun d r1 W1 v1 H1 h1 s1 S1 p1 => by
    split at h1
    · rename_i n
      split at h1
      · rename_i ds0 e0
        obtain ⟨b0, vs0, rfl, g1, g2, g3⟩ := S1.gd.shared p1.ref e0
        refine ⟨.inl ⟨rfl, vs0, .of g2⟩, ?_⟩
        refine tE.go S1 hx h1 fun y r2 W2 v2 H2 h2 s2 S2 p2 => ?_
        split at h2
        · rename_i ds e
          obtain ⟨b, vs, eb, f1, f2, f3⟩ := S2.gd.shared (p1.ref.mono s2.le) e
          cases eb
          refine ⟨_, vs, v2, rfl, rfl, f2, by rw [f3.length]; exact h2.1, ?_⟩
          exact k _ _ h2.2 W2 _ _ ((s1.trans s2).trans (Step.put f1)) (S2.gd.put f1 (f3.append (.one p2))) .non
        · exact h2.elim
      · exact h1.elim
    · exact h1.elim
theorem pe_revN {e : Expr} {k : Nat} {p1 p2 p3 : Pos} {a : DE} (hK : X.K = B.G.K) (h : PE X e (tP B a)) : PE X (.Subscript e (.Slice none none (some (.UnaryOp .USub (.Constant (.int 1) k p1) p2)) p3) pos) (tFr B (revD a)) :=
  PE.mono (pe_revL h) fun σ H Q ⟨W, env, r, x, q, S, hx, h, kk⟩ => tP.go S hx h fun d r1 W1 v1 H1 h1 s1 S1 p1 => by
    have p1 := p1.pr S1.gd
    generalize deref r1 d = d at h1 p1
    split at h1
    · rename_i ds
      obtain ⟨b, vs, rfl, g1, g2⟩ := p1.lst S1.gd
      refine ⟨b, vs, rfl, .of g1, fun p hp => ?_⟩
      have hH : H p = none := Classical.byContradiction fun z => s1.dom p z hp
      exact kk _ r1 h1 W1 _ p _ _ (s1.trans (Step.new hp)) (S1.gd.new hp) rfl upd_same g2.reverse (S1.gd.fnone hp) (S1.gd.rnone hp) hH
    · exact h1.elim
/-- a fresh list is shared from now on -/
theorem Gd.share {G : Sg} {W : Wd} {r : Rs} {H : Hp} (g : Gd G W r H) {a : Addr} {vs : List V} {ds : List D} (h1 : H a = some (.lst vs)) (h2 : DpA G W vs ds) (h3 : W.F a = none) (h4 : a ∉ W.rho) : Gd G ⟨W.F, W.rho ++ [a]⟩ (r ++ [.lst ds]) H := by
  have l : Le W ⟨W.F, W.rho ++ [a]⟩ := ⟨fun _ _ e => e, [a], rfl⟩
  refine ⟨g.sub, by simp [g.len], ?_, fun b hb => ?_, fun n b m e e' => ?_⟩
  · show (W.rho ++ [a]).Nodup
    rw [List.nodup_append]
    exact ⟨g.nd, by simp, fun b hb c hc => by simp at hc; subst hc; exact fun q => h4 (q ▸ hb)⟩
  · rcases List.mem_append.mp hb with hb | hb
    · exact g.nf b hb
    · simp at hb; subst hb; exact h3
  · have e : (W.rho ++ [a])[n]? = some b := e
    by_cases hn : n < W.rho.length
    · rw [List.getElem?_append_left hn] at e
      rw [List.getElem?_append_left (by rw [g.len]; exact hn)] at e'
      exact (g.at_ n b m e e').mono l rfl
    · rw [List.getElem?_append_right (by omega)] at e
      rw [List.getElem?_append_right (by rw [g.len]; omega)] at e'
      rw [g.len] at e'
      cases hm : n - W.rho.length with
      | zero =>
        rw [hm] at e e'
        simp at e e'
        subst e e'
        exact ⟨vs, h1, h2.mono l⟩
      | succ m => rw [hm] at e; simp at e
theorem pe_shN {e : Expr} {a : DE} (h : PE X e (tFr B a)) : PE X e (tE B (shD a)) := PE.mono h fun σ H Q ⟨W, env, r, x, q, S, hx, hd, k⟩ => by
  refine tFr.go S hx hd ?_
  intro ds r' W' H' a vs hq s S' h1 h2 h3 h4 h5
  refine k _ _ hq ⟨W'.F, W'.rho ++ [a]⟩ _ _ ?_ (S'.gd.share h1 h2 h3 h4) ?_
  · refine ⟨s.le.trans ⟨fun _ _ e => e, [a], rfl⟩, s.newF, fun b hb => ?_, s.keep, s.dom⟩
    rcases List.mem_append.mp hb with hb | hb
    · exact s.newR b hb
    · simp at hb; subst hb; exact .inr h5
  · refine .ref ?_
    show (W'.rho ++ [a])[r'.length]? = some a
    rw [S'.gd.len]
    simp
end
end Nv

/-! N5: defs that keep a promise where no repr is under way; calls. -/
namespace Nv
open PySem PySem.Spec PyProof.Rows L2

/-- a def's promise, asked where no repr is under way -/
structure FnG (P : Program) (w : World) (K : PySem.W.Frag) (mg : Str → Option Value) (base : Heap) (k : Nat) (f : Addr) (fd : FuncData) (ps : List Str) (sp : Sp) : Prop where
  len : ∀ vs H Q E, sp vs H Q E → vs.length = ps.length
  run : ∀ (A : Around) (outer : List Env) (s : Shared) (H : Hp) (args : Args) (us : List Value) (vs : List V) (Q : VK) (E : XK),
    A.guards = some [] → Room k A → Env0 P w K mg base A outer s H → BindsTo s fd args (ps.zip us) → Vals vs us → sp vs H Q E →
    codeAny (model P w) A (.call (.ref f) args) (CR (L2.CX P w) outer P w H s Q E) s
theorem FnG.mono {P : Program} {w : World} {K : PySem.W.Frag} {mg : Str → Option Value} {base : Heap} {j k : Nat} {f : Addr} {fd : FuncData} {ps : List Str} {sp : Sp} (F : FnG P w K mg base j f fd ps sp) (h : j ≤ k) : FnG P w K mg base k f fd ps sp :=
  ⟨F.len, fun A outer s H args us vs Q E hg hr => F.run A outer s H args us vs Q E hg (hr.mono h)⟩
theorem FnG.imp {P : Program} {w : World} {K : PySem.W.Frag} {mg : Str → Option Value} {base : Heap} {k : Nat} {f : Addr} {fd : FuncData} {ps : List Str} {sp sp' : Sp} (F : FnG P w K mg base k f fd ps sp)
    (h : ∀ vs H Q E, sp' vs H Q E → sp vs H Q E) : FnG P w K mg base k f fd ps sp' :=
  ⟨fun vs H Q E q => F.len vs H Q E (h _ _ _ _ q), fun A outer s H args us vs Q E hg hr e b v q => F.run A outer s H args us vs Q E hg hr e b v (h _ _ _ _ q)⟩

section
variable {P : Program} {w : World} {K : PySem.W.Frag} {mg : Str → Option Value} {base : Heap}
/-- by its body -/
theorem fnG_of {nm qual : Str} {st : Stmt} {f : Addr} {fd : FuncData} {N ps : List Str} {k : Nat} {sp : Sp} (F : Fun K nm qual st f fd) (sc : FnScope N ps (defScope st))
    (len : ∀ vs H Q E, sp vs H Q E → vs.length = ps.length)
    (body : ∀ (cdv : Value) (A : Around) (outer : List Env) (s : Shared) (H : Hp) (vs : List V) (Q : VK) (E : XK), A.guards = some [] →
      Room k (A.deeper (envOfC qual (defScope st) s.heap.objs.size f cdv)) → sp vs H Q E →
      ∃ t, PSs (cxOf (L2.CX P w) P w K mg base N qual (defScope st) f cdv A outer s H E) (defBody st) t ∧ t { nx := fun _ H' => Q .non H', rt := Q } (start N vs) H) :
    FnG P w K mg base (k + 1) f fd ps sp := by
  obtain ⟨oc, od, kV, doc, pm, an, cdv, ct, osl, rfl, lk, hcd⟩ := F.ex
  refine ⟨len, ?_⟩
  intro A outer s H args us vs Q E hgd hr e0 hb rv hsp
  have eqL := len _ _ _ _ hsp
  have kin : K.In s.heap :=
    e0.mod.kin.keeps (fun b o e => (e0.bs b o e).1)
  have nol : s.heap.NoLimit :=
    e0.mod.nolimit.keeps (fun b o e => (e0.bs b o e).1)
  have kinds : ∀ y ∈ ps.zip us, (defScope st).names.lookup y.1 = some .local ∨
      ((defScope st).names.lookup y.1 = some .cell ∧ ((cellsFrom (s.heap.objs.size + 1) (defScope st).names []).lookup y.1).isSome = true) := by
    rintro ⟨n, v⟩ hy
    cases sc.par n (List.of_mem_zip hy).1 with
    | inl q => exact .inl q
    | inr q => exact .inr ⟨q, PySem.W.cellsFrom_some _ _ _ (.inl q)⟩
  refine codeAny_call_function hr.depth (kin _ _ lk)
    rfl sc.co sc.gen rfl (PySem.W.codeRec_of kin hcd) ?_
  refine hb _ _ _ _ ?_
  refine wpAny_newFunctionEnv_cells sc.kind kinds ?_
  intro env he s1 x
  subst he
  refine ⟨nol.keeps x.toInCall.keep, codeAny_func ?_⟩
  obtain ⟨t, ht, hq⟩ := body cdv A outer s H vs Q E hgd (hr.deeper _) hsp
  have I0 := inv_start (CX := L2.CX P w) (E := E) (cd := cdv) (f := f) (qual := qual)
    sc hr.hd e0 eqL rv x
  have run := ht.run [] s1 (start N vs) H _ I0 hq
  refine wpAny_mono run ?_ (fun e s' hs => hs)
  intro fl s' hs
  cases fl with
  | ret u =>
    obtain ⟨v, σ', H', J, r1, q1⟩ := hs
    exact ⟨v, H', J.os, J.bare, J.base, J.hok, r1, q1⟩
  | next =>
    obtain ⟨σ', H', J, q1⟩ := hs
    exact ⟨V.non, H', J.os, J.bare, J.base, J.hok, rfl, q1⟩
  | brk => exact hs.elim fun _ z => z.elim fun _ z => z.2.elim
  | cont => exact hs.elim fun _ z => z.elim fun _ z => z.2.elim
end

section
variable {X : Cx} {k : Nat} {f C : Addr} {fd : FuncData} {ps ks : List Str} {sp : Sp} {x m : Str} {p pos : Pos} {e : Expr} {es : List Expr} {kws : List Keyword} {t tk : TA} {Wx : L2.WX}
/-- behind a call's code -/
theorem after_call {pins : List (Addr × Obj)} {σ : L2.St} {H : Hp} {s : Shared} {Q : VK} {args : Args} (tk : Takes X Wx) (I : L2.Inv X pins σ H s)
    (h : codeAny (model X.prog X.w) X.A (.call (.ref f) args) (CR (L2.CX X.prog X.w) X.stack X.prog X.w H s Q (WE Wx σ)) s) :
    codeAny (model X.prog X.w) X.A (.call (.ref f) args) (fun r s' => match r with | .ok (.ret v) => EP X pins σ Q v s' | .ok _ => False | .error e => X.xe e s') s := by
  refine codeAny_mono h ?_
  intro r s' hq
  cases r with
  | error e => exact passAt tk σ pins H s e s' I hq
  | ok fl =>
    cases fl with
    | ret u => exact I.after hq
    | next => exact False.elim hq
    | brk => exact False.elim hq
    | cont => exact False.elim hq
theorem run_fnG {pins : List (Addr × Obj)} {σ : L2.St} {H : Hp} {s : Shared} {Q : VK} {us ds : List Value} {vs dvs : List V} (F : FnG X.prog X.w X.K X.mg X.base k f fd ps sp) (hgd : X.A.guards = some []) (hr : Room k X.A) (hb : Binds X.K fd ps ds)
    (hd : Vals dvs ds) (tk : Takes X Wx) (I : L2.Inv X pins σ H s) (r : Vals vs us) (h : sp (vs ++ dvs) H Q (WE Wx σ)) : wpAny (model X.prog X.w) X.A (call (.ref f) us) (EP X pins σ Q) X.xe s := by
  have r2 := r.append hd
  have hl : (us ++ ds).length = ps.length :=
    r2.length.symm.trans (F.len _ _ _ _ h)
  have c := F.run X.A X.stack s H ⟨us, []⟩ (us ++ ds) (vs ++ dvs) Q (WE Wx σ) hgd hr I.env0 (hb s us I.kIn hl) r2 h
  refine wpAny_call (codeAny_mono (after_call tk I c) ?_)
  intro r s' hq
  cases r with
  | error e => exact hq
  | ok fl => cases fl <;> exact hq
/-- f(e, ..) -/
theorem pe_callG {ds : List Value} {dvs : List V} (F : FnG X.prog X.w X.K X.mg X.base k f fd ps sp) (hgd : X.A.guards = some []) (hr : Room k X.A) (hg : Gl X x) (hm : X.mg x = some (.ref f)) (hk : PySem.W.keepIn X.K (.ref f) = true) (hb : Binds X.K fd ps ds)
    (hd : Vals dvs ds) (tk : Takes X Wx) (ha : PA X (e :: es) t) (hdb : (x == ("__debug__" : Str)) = false) (he : starEach (e :: es) X.env = (false, eval e X.env) :: starEach es X.env) (hpl : (backTo pos (starEach es X.env)).any (·.1) = false) :
    PE X (.Call (.Name x p) (e :: es) [] pos) (fun σ H Q => t σ H fun vs H1 => sp (vs ++ dvs) H1 Q (WE Wx σ)) := by
  constructor
  intro pins s σ H Q I h
  refine wpAny_Call_Name_kw (ld_glob I hg hm ?_ hdb)
  refine PySem.W.callWith_K (h₀ := X.base) I.ok.mod.kin hk ?_ he hpl
  refine thn (ha.run pos pins s σ H _ I h) ?_
  rintro us s1 ⟨vs, H1, I1, r, q⟩
  exact ⟨I1.kIn, run_fnG F hgd hr hb hd tk I1 r q⟩
theorem pe_callG0 {ds : List Value} {dvs : List V} (F : FnG X.prog X.w X.K X.mg X.base k f fd ps sp) (hgd : X.A.guards = some []) (hr : Room k X.A) (hg : Gl X x) (hm : X.mg x = some (.ref f)) (hk : PySem.W.keepIn X.K (.ref f) = true) (hb : Binds X.K fd ps ds)
    (hd : Vals dvs ds) (tk : Takes X Wx) (hdb : (x == ("__debug__" : Str)) = false) : PE X (.Call (.Name x p) [] [] pos) (fun σ H Q => sp dvs H Q (WE Wx σ)) := by
  constructor
  intro pins s σ H Q I h
  refine wpAny_Call_Name_kw (ld_glob I hg hm ?_ hdb)
  exact PySem.W.callWith_K0 I.kIn hk (run_fnG (us := []) (vs := []) F hgd hr hb hd tk I .nil h)
theorem run_fnkG {pins : List (Addr × Obj)} {σ : L2.St} {H : Hp} {s : Shared} {Q : VK} {us ws : List Value} {vs zs : List V} {g : List Value → List Value → List Value} {gV : List V → List V → List V} (F : FnG X.prog X.w X.K X.mg X.base k f fd ps sp)
    (hgd : X.A.guards = some []) (hr : Room k X.A) (hb : KBinds X.K fd ps ks g gV) (tk : Takes X Wx) (I : L2.Inv X pins σ H s) (r : Vals vs us) (rz : Vals zs ws) (h : sp (gV vs zs) H Q (WE Wx σ)) :
    wpAny (model X.prog X.w) X.A (call (.ref f) us (ks.zip ws)) (EP X pins σ Q) X.xe s := by
  have r2 := hb.rel r rz
  have hl : (g us ws).length = ps.length :=
    r2.length.symm.trans (F.len _ _ _ _ h)
  have c := F.run X.A X.stack s H ⟨us, ks.zip ws⟩ (g us ws) (gV vs zs) Q (WE Wx σ) hgd hr I.env0 (hb.to s us ws I.kIn hl) r2 h
  refine wpAny_call (codeAny_mono (after_call tk I c) ?_)
  intro r s' hq
  cases r with
  | error e => exact hq
  | ok fl => cases fl <;> exact hq
end

/-- a promise over pure data -/
def spS (G : Sg) (n : Nat) (S : Sem) : Sp := fun vs H Q E => vs.length = n ∧ ∃ (W : Wd) (r : Rs) (ds : List D) (x : Nat → List D → Rs → Prop) (q : D → Rs → Prop), Gd G W r H ∧ DpA G W vs ds ∧ S ds r x q ∧
  (∀ d r', q d r' → ∀ W' v H', Nv.Step W W' H H' → Gd G W' r' H' → Dp G W' v d → Q v H') ∧
  (∀ c fs r', x c fs r' → ∀ (W' : Wd) (H' : Hp) (dx : Addr) (kvs : List (Str × V)), Nv.Step W W' H H' → Gd G W' r' H' → H' dx = some (.xd kvs) → kvs.map (·.1) = (G.cl c).2 → DpA G W' (kvs.map (·.2)) fs → E (.ref (G.cl c).1) (some dx) H')
theorem spS_go {B : Bs} {W : Wd} {env : En} {r : Rs} {σ : L2.St} {H : Hp} {x : Xk} {n : Nat} {S : Sem} {vs : List V} {ds : List D} {q : D → Rs → Prop} {Q : VK} (St0 : Stt B W env r σ H) (hx : Xl B x) (hn : ds.length = n) (hv : DpA B.G W vs ds)
    (h : S ds r (fun c fs r2 => x c fs env r2) q) (k : ∀ d r', q d r' → ∀ W' v H', Nv.Step W W' H H' → Gd B.G W' r' H' → Dp B.G W' v d → Q v H') : spS B.G n S vs H Q (WE B.wx σ) :=
  ⟨hv.length.trans hn, W, r, ds, fun c fs r2 => x c fs env r2, q, St0.gd, hv, h, k, fun c fs r' hc W' H' dx kvs s g e1 e2 e3 => hx c fs env r' hc W' σ H' dx kvs (St0.step s g) e1 e2 e3⟩

section
variable {X : Cx} {B : Bs} {k n : Nat} {f : Addr} {fd : FuncData} {ps ks : List Str} {S : Sem} {x : Str} {p pos : Pos} {e : Expr} {es : List Expr} {kws : List Keyword} {as bs : DA}
theorem pe_callN (F : FnG X.prog X.w X.K X.mg X.base k f fd ps (spS B.G n S)) (hgd : X.A.guards = some []) (hr : Room k X.A) (hg : Gl X x) (hm : X.mg x = some (.ref f)) (hk : PySem.W.keepIn X.K (.ref f) = true) (hb : Binds X.K fd ps []) (tk : Takes X B.wx)
    (ha : PA X (e :: es) (tAE B n as)) (hdb : (x == ("__debug__" : Str)) = false) (he : starEach (e :: es) X.env = (false, eval e X.env) :: starEach es X.env)
    (hpl : (backTo pos (starEach es X.env)).any (·.1) = false) : PE X (.Call (.Name x p) (e :: es) [] pos) (tE B (callD S as)) :=
  PE.mono (pe_callG F hgd hr hg hm hk hb .nil tk ha hdb he hpl) fun σ H Q ⟨W, env, r, x, q, S0, hx, h, k⟩ => tAE.go S0 hx h fun ds r1 W1 vs H1 h1 hn s1 S1 p1 => by
    rw [List.append_nil]
    exact spS_go S1 hx hn p1 h1 fun d r' hq W' v H' s g p => k d r' hq W' v H' (s1.trans s) g p
theorem pe_callN0 (F : FnG X.prog X.w X.K X.mg X.base k f fd ps (spS B.G 0 S)) (hgd : X.A.guards = some []) (hr : Room k X.A) (hg : Gl X x) (hm : X.mg x = some (.ref f)) (hk : PySem.W.keepIn X.K (.ref f) = true) (hb : Binds X.K fd ps []) (tk : Takes X B.wx)
    (hdb : (x == ("__debug__" : Str)) = false) : PE X (.Call (.Name x p) [] [] pos) (tE B (callD S nilA)) :=
  PE.mono (pe_callG0 F hgd hr hg hm hk hb .nil tk hdb) fun σ H Q ⟨W, env, r, x, q, S0, hx, h, k⟩ => spS_go S0 hx rfl .nil h k
end

/-! ### keywords -/
/-- the arguments in the parameters' order: the positional ones, then the keywords' by name -/
def kwPut {α : Type} (ps ks : List Str) (us ws : List α) : List α := us ++ (ps.drop us.length).filterMap fun p => (ks.zip ws).lookup p
/-- j positional arguments, the keywords ks: how they bind -/
def KwOk (K : PySem.W.Frag) (fd : FuncData) (ps : List Str) (j : Nat) (ks : List Str) : Prop := ∀ (s : Shared) (us ws : List Value), K.In s.heap → us.length = j → ws.length = ks.length → BindsTo s fd ⟨us, ks.zip ws⟩ (ps.zip (kwPut ps ks us ws)) ∧ (kwPut ps ks us ws).length = ps.length
theorem zip_lookup {α β : Type} {R : α → β → Prop} {p : Str} : ∀ {ks : List Str} {xs : List α} {ys : List β}, Paired R xs ys → (∀ x, (ks.zip xs).lookup p = some x → ∃ y, (ks.zip ys).lookup p = some y ∧ R x y) ∧ ((ks.zip xs).lookup p = none → (ks.zip ys).lookup p = none)
  | [], _, _, _ => ⟨fun x h => by simp at h, fun _ => by simp⟩
  | _ :: _, _, _, .nil => ⟨fun x h => by simp at h, fun _ => by simp⟩
  | k :: ks, _, _, .cons (a := a) (b := b) r t => by
    have ih := zip_lookup (p := p) (ks := ks) t
    simp only [List.zip_cons_cons, List.lookup_cons]
    cases h : (p == k) with
    | true => exact ⟨fun x e => ⟨b, rfl, by cases e; exact r⟩, fun e => by cases e⟩
    | false => exact ih
theorem kwPut_rel {α β : Type} {R : α → β → Prop} {ks : List Str} {zs : List α} {ws : List β} (rz : Paired R zs ws) : ∀ {qs : List Str}, Paired R (qs.filterMap fun p => (ks.zip zs).lookup p) (qs.filterMap fun p => (ks.zip ws).lookup p)
  | [] => .nil
  | q :: qs => by
    have ih := kwPut_rel (ks := ks) rz (qs := qs)
    obtain ⟨h1, h2⟩ := zip_lookup (p := q) (ks := ks) rz
    cases e : (ks.zip zs).lookup q with
    | none => simp only [List.filterMap_cons, e, h2 e]; exact ih
    | some x =>
      obtain ⟨y, e2, r⟩ := h1 x e
      simp only [List.filterMap_cons, e, e2]
      exact .cons r ih
theorem kwPut_vals {ps ks : List Str} {vs zs : List V} {us ws : List Value} (r : Vals vs us) (rz : Vals zs ws) : Vals (kwPut ps ks vs zs) (kwPut ps ks us ws) := by
  unfold kwPut
  rw [r.length]
  exact r.append (kwPut_rel rz)
theorem paired_dpa {G : Sg} {W : Wd} : ∀ {vs : List V} {ds : List D}, DpA G W vs ds → Paired (Dp G W) vs ds
  | _, _, .nil => .nil
  | _, _, .cons h t => .cons h (paired_dpa t)
theorem dpa_paired {G : Sg} {W : Wd} : ∀ {vs : List V} {ds : List D}, Paired (Dp G W) vs ds → DpA G W vs ds
  | _, _, .nil => .nil
  | _, _, .cons h t => .cons h (dpa_paired t)
theorem kwPut_dpa {G : Sg} {W : Wd} {ps ks : List Str} {vs zs : List V} {us ws : List D} (r : DpA G W vs us) (rz : DpA G W zs ws) : DpA G W (kwPut ps ks vs zs) (kwPut ps ks us ws) := by
  unfold kwPut
  rw [r.length]
  exact r.append (dpa_paired (kwPut_rel (paired_dpa rz)))
theorem kwPut_len {α β : Type} {ps ks : List Str} {us : List α} {ws : List α} {us' : List β} {ws' : List β} (h1 : us.length = us'.length) (h2 : ws.length = ws'.length) : (kwPut ps ks us ws).length = (kwPut ps ks us' ws').length := by
  have hp : ∀ {xs : List α} {ys : List β}, xs.length = ys.length → Paired (fun _ _ => True) xs ys := fun {xs} => by
    induction xs with
    | nil => intro ys e; cases ys with | nil => exact .nil | cons _ _ => simp at e
    | cons x xs ih => intro ys e; cases ys with | nil => simp at e | cons y ys => exact .cons trivial (ih (by simpa using e))
  unfold kwPut
  rw [List.length_append, List.length_append, h1, (kwPut_rel (hp h2)).length]
section
variable {X : Cx} {B : Bs} {k n m : Nat} {f : Addr} {fd : FuncData} {ps ks : List Str} {S : Sem} {x : Str} {p pos : Pos} {es : List Expr} {kws : List Keyword} {as bs : DA}
def tKE (B : Bs) (n : Nat) (den : DA) : TA := tAE B n den
theorem PK.mono {X : Cx} {e : List Keyword} {t t' : TA} (h : PK X e t) (k : ∀ σ H Q, t' σ H Q → t σ H Q) : PK X e t' := ⟨fun pos pins s σ H Q I hw => h.run pos pins s σ H Q I (k σ H Q hw)⟩
theorem pk_nilN {X : Cx} : PK X [] (tAE B 0 nilA) := PK.mono pk_nil fun σ H Q ⟨W, env, r, x, q, S, hx, h, k⟩ => k _ r h rfl W _ H (.refl W H) S.gd .nil
theorem pk_consN {X : Cx} {e : Expr} {nm : Option Str} {kp : Pos} {kws : List Keyword} {n : Nat} {a : DE} {as : DA} (ha : PE X e (tE B a)) (hr : PK X kws (tAE B n as)) : PK X (⟨nm, e, kp⟩ :: kws) (tAE B (n + 1) (consA a as)) :=
  PK.mono (pk_cons ha hr) fun σ H Q ⟨W, env, r, x, q, S, hx, h, k⟩ => tE.go S hx h fun d r1 W1 v1 H1 h1 s1 S1 p1 => tAE.go S1 hx h1 fun ds r2 W2 vs H2 h2 hn s2 S2 p2 =>
    k _ r2 h2 (by rw [List.length_cons, hn]) W2 _ H2 (s1.trans s2) S2.gd (.cons (p1.mono s2.le) p2)
theorem run_kwG {pins : List (Addr × Obj)} {σ : L2.St} {H : Hp} {s : Shared} {Q : VK} {us ws : List Value} {vs zs : List V} {sp : Sp} {Wx : L2.WX} (F : FnG X.prog X.w X.K X.mg X.base k f fd ps sp) (hgd : X.A.guards = some []) (hr : Room k X.A) (hb : KwOk X.K fd ps n ks) (tk : Takes X Wx)
    (I : L2.Inv X pins σ H s) (r : Vals vs us) (rz : Vals zs ws) (hn : vs.length = n) (hm : zs.length = ks.length) (h : sp (kwPut ps ks vs zs) H Q (WE Wx σ)) : wpAny (model X.prog X.w) X.A (call (.ref f) us (ks.zip ws)) (EP X pins σ Q) X.xe s := by
  obtain ⟨b1, b2⟩ := hb s us ws I.kIn (by rw [← r.length]; exact hn) (by rw [← rz.length]; exact hm)
  have c := F.run X.A X.stack s H ⟨us, ks.zip ws⟩ (kwPut ps ks us ws) (kwPut ps ks vs zs) Q (WE Wx σ) hgd hr I.env0 b1 (kwPut_vals r rz) h
  refine wpAny_call (codeAny_mono (after_call tk I c) ?_)
  intro r s' hq
  cases r with
  | error e => exact hq
  | ok fl => cases fl <;> exact hq
/-- behind the arguments -/
theorem kw_fin {pins : List (Addr × Obj)} {σ : L2.St} {H H1 H2 : Hp} {Q : VK} {W W1 W2 : Wd} {env : En} {r2 : Rs} {xk : Xk} {q : D → Rs → Prop} {us ws : List Value} {s1 : Shared} {vs zs : List V} {ds es : List D} (F : FnG X.prog X.w X.K X.mg X.base k f fd ps (spS B.G ps.length S)) (hgd : X.A.guards = some []) (hr : Room k X.A)
    (hb : KwOk X.K fd ps n ks) (tk : Takes X B.wx) (hlen : ∀ us ws : List D, us.length = n → ws.length = ks.length → (kwPut ps ks us ws).length = ps.length) (hx : Xl B xk) (kk : ∀ (d : D) (r' : Rs), q d r' → ∀ (W' : Wd) (v : V) (H' : Hp), Nv.Step W W' H H' → Gd B.G W' r' H' → Dp B.G W' v d → Q v H')
    (I2 : L2.Inv X pins σ H2 s1) (rv : Vals vs us) (rz : Vals zs ws) (hn1 : ds.length = n) (hm1 : es.length = ks.length) (s1' : Nv.Step W W1 H H1) (s2' : Nv.Step W1 W2 H1 H2) (S2 : Stt B W2 env r2 σ H2) (pv : DpA B.G W1 vs ds) (pz : DpA B.G W2 zs es)
    (hS : S (kwPut ps ks ds es) r2 (fun c fs r3 => xk c fs env r3) q) : wpAny (model X.prog X.w) X.A (call (.ref f) us (ks.zip ws)) (EP X pins σ Q) X.xe s1 := by
  refine run_kwG F hgd hr hb tk I2 rv rz (pv.length.trans hn1) (pz.length.trans hm1) ?_
  exact spS_go S2 hx (hlen ds es hn1 hm1) (kwPut_dpa (pv.mono s2'.le) pz) hS fun d r' hq W' v H' s g p => kk d r' hq W' v H' ((s1'.trans s2').trans s) g p
theorem pe_kwN {e : Expr} (F : FnG X.prog X.w X.K X.mg X.base k f fd ps (spS B.G ps.length S)) (hgd : X.A.guards = some []) (hr : Room k X.A) (hg : Gl X x) (hm : X.mg x = some (.ref f)) (hk : PySem.W.keepIn X.K (.ref f) = true) (hb : KwOk X.K fd ps n ks) (tk : Takes X B.wx)
    (ha : PA X (e :: es) (tAE B n as)) (hkw : PK X kws (tAE B ks.length bs)) (hlen : ∀ us ws : List D, us.length = n → ws.length = ks.length → (kwPut ps ks us ws).length = ps.length) (hall : (backToKw pos (keywordEach kws X.env)).all (·.1.isSome) = true) (hks : (backToKw pos (keywordEach kws X.env)).filterMap (·.1) = ks) (hdb : (x == ("__debug__" : Str)) = false)
    (he : starEach (e :: es) X.env = (false, eval e X.env) :: starEach es X.env) (hpl : ((backTo pos (starEach (e :: es) X.env)).any (·.1) || (backToKw pos (keywordEach kws X.env)).any (·.1.isNone)) = false) :
    PE X (.Call (.Name x p) (e :: es) kws pos) (tE B (callKD S (kwPut ps ks) as bs)) := by
  constructor
  intro pins s σ H Q I ⟨W, env, r, xk, q, S0, hx, h, kk⟩
  refine wpAny_Call_Name_kw (ld_glob I hg hm ?_ hdb)
  have rd : tAE B n as σ H (fun vs H1 => tAE B ks.length bs σ H1 (fun zs H2 => ∃ (ds es : List D) (r2 : Rs) (W1 W2 : Wd), ds.length = n ∧ es.length = ks.length ∧ Nv.Step W W1 H H1 ∧ Nv.Step W1 W2 H1 H2 ∧ Stt B W2 env r2 σ H2 ∧ DpA B.G W1 vs ds ∧ DpA B.G W2 zs es ∧
      S (kwPut ps ks ds es) r2 (fun c fs r3 => xk c fs env r3) q)) :=
    tAE.go S0 hx h fun ds r1 W1 vs H1 h1 hn1 s1 S1 p1 => tAE.go S1 hx h1 fun es r2 W2 zs H2 h2 hm1 s2 S2 p2 => ⟨ds, es, r2, W1, W2, hn1, hm1, s1, s2, S2, p1, p2, h2⟩
  refine PySem.W.callWith_KW (h₀ := X.base) I.ok.mod.kin hk hall ?_ hpl he
  refine thn (ha.run pos pins s σ H _ I rd) ?_
  rintro us s1 ⟨vs, H1, I1, rv, q1⟩
  refine thn (hkw.run pos pins s1 σ H1 _ I1 q1) ?_
  rintro ws s2 ⟨zs, H2, I2, rz, ds, es, r2, W1, W2, a1, a2, a3, a4, a5, a6, a7, a8⟩
  refine ⟨I2.kIn, ?_⟩
  rw [hks]
  exact kw_fin F hgd hr hb tk hlen hx kk I2 rv rz a1 a2 a3 a4 a5 a6 a7 a8
theorem pe_kwN0 (F : FnG X.prog X.w X.K X.mg X.base k f fd ps (spS B.G ps.length S)) (hgd : X.A.guards = some []) (hr : Room k X.A) (hg : Gl X x) (hm : X.mg x = some (.ref f)) (hk : PySem.W.keepIn X.K (.ref f) = true) (hb : KwOk X.K fd ps 0 ks) (tk : Takes X B.wx)
    (hkw : PK X kws (tAE B ks.length bs)) (hlen : ∀ us ws : List D, us.length = 0 → ws.length = ks.length → (kwPut ps ks us ws).length = ps.length) (hall : (backToKw pos (keywordEach kws X.env)).all (·.1.isSome) = true) (hks : (backToKw pos (keywordEach kws X.env)).filterMap (·.1) = ks) (hdb : (x == ("__debug__" : Str)) = false)
    (hpl : ((backTo pos (starEach [] X.env)).any (·.1) || (backToKw pos (keywordEach kws X.env)).any (·.1.isNone)) = false) :
    PE X (.Call (.Name x p) [] kws pos) (tE B (callKD S (kwPut ps ks) nilA bs)) := by
  constructor
  intro pins s σ H Q I ⟨W, env, r, xk, q, S0, hx, h, kk⟩
  refine wpAny_Call_Name_kw (ld_glob I hg hm ?_ hdb)
  have h : bs env r xk fun es r2 => S (kwPut ps ks [] es) r2 (fun c fs r3 => xk c fs env r3) q := h
  have rd : tAE B ks.length bs σ H (fun zs H2 => ∃ (es : List D) (r2 : Rs) (W2 : Wd), es.length = ks.length ∧ Nv.Step W W2 H H2 ∧ Stt B W2 env r2 σ H2 ∧ DpA B.G W2 zs es ∧ S (kwPut ps ks [] es) r2 (fun c fs r3 => xk c fs env r3) q) :=
    tAE.go S0 hx h fun es r2 W2 zs H2 h2 hm1 s2 S2 p2 => ⟨es, r2, W2, hm1, s2, S2, p2, h2⟩
  refine PySem.W.callWith_KW0 (h₀ := X.base) I.ok.mod.kin hk hall ?_ hpl
  refine thn (hkw.run pos pins s σ H _ I rd) ?_
  rintro ws s2 ⟨zs, H2, I2, rz, es, r2, W2, a2, a4, a5, a7, a8⟩
  refine ⟨I2.kIn, ?_⟩
  rw [hks]
  exact kw_fin (ds := []) F hgd hr hb tk hlen hx kk I2 .nil rz rfl a2 (.refl W H) a4 a5 .nil a7 a8
end
end Nv

/-! N6: targets, what is walked, comprehensions, statements. -/
namespace Nv
open PySem PySem.Spec PyProof.Rows L2

section
variable {B : Bs} {W W' : Wd} {env env' : En} {r r' : Rs} {σ σ' : L2.St} {H H' : Hp} {x : Xk}
/-! ### slots set -/
theorem Lo.setVal {G : Sg} {H0 : Hp} (l : Lo G W H0 H env σ) (i : Nat) {v : V} {d : D} (p : Dp G W v d) : Lo G W H0 H (env.set i (.val d)) (σ.set i (some v)) := by
  refine ⟨by rw [List.length_set, List.length_set]; exact l.len, fun j s e => ?_, fun j j' a ds es hj e1 e2 e3 => ?_⟩
  · rw [List.getElem?_set] at e
    by_cases hij : i = j
    · subst hij
      simp only [if_true] at e
      split at e
      · rename_i hl
        cases e
        exact ⟨v, by rw [List.getElem?_set_self (by rw [← l.len]; exact hl)], p⟩
      · cases e
    · rw [if_neg hij] at e
      rw [List.getElem?_set_ne hij]
      exact l.at_ j s e
  · have hne : ∀ {j : Nat} {zs : List D}, (env.set i (.val d))[j]? = some (.own zs) → i ≠ j ∧ env[j]? = some (.own zs) := fun {j zs} e => by
      rw [List.getElem?_set] at e
      by_cases hij : i = j
      · rw [if_pos hij] at e
        split at e <;> cases e
      · rw [if_neg hij] at e
        exact ⟨hij, e⟩
    obtain ⟨n1, f1⟩ := hne e1
    obtain ⟨n2, f2⟩ := hne e2
    rw [List.getElem?_set_ne n1] at e3
    rw [List.getElem?_set_ne n2]
    exact l.sep j j' a ds es hj f1 f2 e3
theorem Lo.setOwn {G : Sg} {H0 : Hp} (l : Lo G W H0 H env σ) (i : Nat) {a : Addr} {vs : List V} {ds : List D} (h1 : H a = some (.lst vs)) (h2 : DpA G W vs ds) (h3 : W.F a = none) (h4 : a ∉ W.rho) (h5 : H0 a = none)
    (h6 : ∀ (j : Nat) (es : List D), j ≠ i → env[j]? = some (.own es) → σ[j]? ≠ some (some (.ref a))) : Lo G W H0 H (env.set i (.own ds)) (σ.set i (some (.ref a))) := by
  refine ⟨by rw [List.length_set, List.length_set]; exact l.len, fun j s e => ?_, fun j j' b xs ys hj e1 e2 e3 => ?_⟩
  · rw [List.getElem?_set] at e
    by_cases hij : i = j
    · subst hij
      simp only [if_true] at e
      split at e
      · rename_i hl
        cases e
        exact ⟨a, vs, by rw [List.getElem?_set_self (by rw [← l.len]; exact hl)], h1, h2, h3, h4, h5⟩
      · cases e
    · rw [if_neg hij] at e
      rw [List.getElem?_set_ne hij]
      exact l.at_ j s e
  · have hlt : ∀ {j : Nat} {s : Sl}, (env.set i (.own ds))[j]? = some s → j < σ.length := fun {j s} e => by
      have := (List.getElem?_eq_some_iff.mp e).1
      rw [List.length_set, l.len] at this
      exact this
    by_cases hij : i = j
    · subst hij
      rw [List.getElem?_set_self (hlt e1)] at e3
      cases e3
      rw [List.getElem?_set_ne hj] at e2 ⊢
      exact h6 j' ys (Ne.symm hj) e2
    · rw [List.getElem?_set_ne hij] at e1 e3
      by_cases hij' : i = j'
      · subst hij'
        rw [List.getElem?_set_self (hlt e2)]
        intro q
        cases q
        exact h6 j xs (Ne.symm hij) e1 e3
      · rw [List.getElem?_set_ne hij'] at e2 ⊢
        exact l.sep j j' b xs ys hj e1 e2 e3
theorem Stt.setVal (S : Stt B W env r σ H) (i : Nat) {v : V} {d : D} (p : Dp B.G W v d) : Stt B W (env.set i (.val d)) r (σ.set i (some v)) H := ⟨S.lo.setVal i p, S.gd, S.st⟩

/-! ### targets -/
/-- js: the slots that are set -/
def tG (B : Bs) (g : DG) (js : List Nat) : TG := fun v σ H Q => ∃ W env r d kk, Stt B W env r σ H ∧ Dp B.G W v d ∧ g d env kk ∧
  ∀ env', kk env' → ∀ σ', Stt B W env' r σ' H → (σ'.length = σ.length ∧ ∀ j, j ∉ js → σ'[j]? = σ[j]?) → Q σ' H
def tGs (B : Bs) (g : List D → En → (En → Prop) → Prop) (js : List Nat) : TGs := fun vs σ H Q => ∃ W env r ds kk, Stt B W env r σ H ∧ DpA B.G W vs ds ∧ g ds env kk ∧
  ∀ env', kk env' → ∀ σ', Stt B W env' r σ' H → (σ'.length = σ.length ∧ ∀ j, j ∉ js → σ'[j]? = σ[j]?) → Q σ' H
theorem PG.mono {X : Cx} {tg : Expr} {t t' : TG} (h : PG X tg t) (k : ∀ v σ H Q, t' v σ H Q → t v σ H Q) : PG X tg t' := ⟨fun pins s σ H v u Q I rv hw => h.run pins s σ H v u Q I rv (k v σ H Q hw)⟩
theorem PGs.mono {X : Cx} {tg : List Expr} {t t' : TGs} (h : PGs X tg t) (k : ∀ v σ H Q, t' v σ H Q → t v σ H Q) : PGs X tg t' := ⟨fun pins s σ H v u Q I rv hw => h.run pins s σ H v u Q I rv (k v σ H Q hw)⟩
theorem pg_nmN {X : Cx} {i : Nat} {n : Str} {pos : Pos} (hN : X.N.Nodup) (hi : X.N[i]? = some n) (hx : Loc X.env.scope n) (hf : X.fn n = true ∨ X.env.scope.names.lookup n = some .local) : PG X (.Name n pos) (tG B (nmG i) [i]) :=
  PG.mono (pg_name hN hi hx hf) fun v σ H Q ⟨W, env, r, d, kk, S, p, h, k⟩ => k _ h _ (S.setVal i p) ⟨List.length_set, fun j hj => List.getElem?_set_ne (fun e => hj (by simp [e]))⟩
theorem pgs_nilN {X : Cx} : PGs X [] (tGs B nilG []) :=
  PGs.mono pgs_nil fun v σ H Q ⟨W, env, r, ds, kk, S, p, h, k⟩ => by
    cases p with
    | nil => exact ⟨rfl, k env h σ S ⟨rfl, fun _ _ => rfl⟩⟩
    | cons _ _ => exact h.elim
theorem pgs_consN {X : Cx} {e : Expr} {es : List Expr} {g : DG} {gs : List D → En → (En → Prop) → Prop} {js js' : List Nat} (h1 : PG X e (tG B g js)) (h2 : PGs X es (tGs B gs js')) (hp : ∀ {t : TG} {u : TGs}, PG X e t → PGs X es u → PGs X (e :: es) (gCons t u)) :
    PGs X (e :: es) (tGs B (consG g gs) (js ++ js')) :=
  PGs.mono (hp h1 h2) fun v σ H Q ⟨W, env, r, ds, kk, S, p, h, k⟩ => by
    cases p with
    | nil => exact h.elim
    | cons p1 p2 =>
      refine ⟨_, _, rfl, W, env, r, _, _, S, p1, h, fun env1 h1 σ1 S1 o1 => ?_⟩
      refine ⟨W, env1, r, _, _, S1, p2, h1, fun env2 h2 σ2 S2 o2 => k env2 h2 σ2 S2 ⟨o2.1.trans o1.1, fun j hj => ?_⟩⟩
      rw [List.mem_append, not_or] at hj
      rw [o2.2 j hj.2, o1.2 j hj.1]
theorem pg_tupN {X : Cx} {es : List Expr} {n : Nat} {pos : Pos} {gs : List D → En → (En → Prop) → Prop} {js : List Nat} (hK : X.K = B.G.K) (hc : X.calm = true) (h : PGs X es (tGs B gs js)) (hn : ∀ ds env kk, gs ds env kk → ds.length = (assignEach es X.env).length)
    (hst : (assignEach es X.env).findIdx? (·.1) = none) : PG X (.Tuple es n pos) (tG B (tupG gs) js) :=
  PG.mono (pg_tup hc h rfl hst) fun v σ H Q ⟨W, env, r, d, kk, S, p, h, k⟩ => by
    unfold tupG at h
    split at h
    · cases p with
      | tup p1 p2 =>
        rw [hK]
        exact ⟨_, _, rfl, sqT_mono S.gd.sub p1, by rw [p2.length]; exact hn _ _ _ h, W, env, r, _, kk, S, p2, h, k⟩
    · exact h.elim

/-- a target leads somewhere -/
def ExG (g : DG) : Prop := ∀ d env kk, g d env kk → ∃ env', kk env'
def ExGs (n : Nat) (gs : List D → En → (En → Prop) → Prop) : Prop := ∀ ds env kk, gs ds env kk → ds.length = n ∧ ∃ env', kk env'
theorem exNm {i : Nat} : ExG (nmG i) := fun d env kk h => ⟨_, h⟩
theorem exTup {n : Nat} {gs : List D → En → (En → Prop) → Prop} (h : ExGs n gs) : ExG (tupG gs) := fun d env kk hh => by
  unfold tupG at hh
  split at hh
  · exact (h _ _ _ hh).2
  · exact hh.elim
theorem exsNil : ExGs 0 nilG := fun ds env kk h => by
  cases ds with
  | nil => exact ⟨rfl, _, h⟩
  | cons _ _ => exact h.elim
theorem exsCons {n : Nat} {g : DG} {gs : List D → En → (En → Prop) → Prop} (h1 : ExG g) (h2 : ExGs n gs) : ExGs (n + 1) (consG g gs) := fun ds env kk h => by
  cases ds with
  | nil => exact h.elim
  | cons d ds =>
    obtain ⟨env', h'⟩ := h1 d env _ h
    obtain ⟨e, r⟩ := h2 ds env' kk h'
    exact ⟨by rw [List.length_cons, e], r⟩

/-! ### what is walked -/
/-- J hands out these items, as long as what is frozen stays and what is P stays -/
def Feeds (G : Sg) (kp : Bool) (W : Wd) (H : Hp) (J : It) (items : List D) : Prop := ∀ (W' : Wd) (H' : Hp) (r : Rs), Le W W' → (kp = true → ∀ b o, H b = some o → W.F b = none → b ∉ W.rho → H' b = some o) → Gd G W' r H' →
  ∀ i : Nat, (∀ d, items[i]? = some d → J.go i H' ∧ ∀ v H'', J.yld i H' v H'' → ∃ W'', Nv.Step W' W'' H' H'' ∧ Gd G W'' r H'' ∧ Dp G W'' v d) ∧ (i = items.length → J.stop i H')
def tI (B : Bs) (kp : Bool) (it : DI) : TI := fun σ H R => ∃ W env r x q, Stt B W env r σ H ∧ Xl B x ∧ it env r x q ∧
  ∀ items r', q items r' → ∀ W' H' J, Nv.Step W W' H H' → Gd B.G W' r' H' → Feeds B.G kp W' H' J items → R J H'
theorem PI.mono {X : Cx} {tg it : Expr} {t t' : TI} (h : PI X tg it t) (k : ∀ σ H Q, t' σ H Q → t σ H Q) : PI X tg it t' := ⟨fun pins s σ H R I hw => h.run pins s σ H R I (k σ H R hw)⟩
theorem feedsL {G : Sg} {W : Wd} {H : Hp} {kp : Bool} {a : Addr} {vs : List V} {ds : List D} (h : SqL G.K W.F a vs ∨ (kp = true ∧ H a = some (.lst vs) ∧ W.F a = none ∧ a ∉ W.rho)) (p : DpA G W vs ds) : Feeds G kp W H (Itl G.K a) ds := by
  intro W' H' r l kpp g i
  have hs : SqL G.K H' a vs := by
    rcases h with h | ⟨hk, h1, h2, h3⟩
    · exact sqL_mono g.sub (sqL_mono l.fr h)
    · exact .of (kpp hk a _ h1 h2 h3)
  refine ⟨fun d e => ?_, fun e => ⟨vs, hs, by rw [p.length, e]; exact Nat.le_refl _⟩⟩
  obtain ⟨v, h1, h2⟩ := p.get e
  refine ⟨⟨vs, v, hs, h1⟩, fun u H'' y => ?_⟩
  obtain ⟨rfl, y⟩ := y
  have := y vs hs
  rw [h1] at this
  cases this
  exact ⟨W', .refl _ _, g, h2.mono l⟩
theorem feedsT {G : Sg} {W : Wd} {H : Hp} {kp : Bool} {a : Addr} {vs : List V} {ds : List D} (h : SqT G.K W.F a vs) (p : DpA G W vs ds) : Feeds G kp W H (Itt G.K a) ds := by
  intro W' H' r l kpp g i
  have hs : SqT G.K H' a vs := sqT_mono g.sub (sqT_mono l.fr h)
  refine ⟨fun d e => ?_, fun e => ⟨vs, hs, by rw [p.length, e]; exact Nat.le_refl _⟩⟩
  obtain ⟨v, h1, h2⟩ := p.get e
  refine ⟨⟨vs, v, hs, h1⟩, fun u H'' y => ?_⟩
  obtain ⟨rfl, y⟩ := y
  have := y vs hs
  rw [h1] at this
  cases this
  exact ⟨W', .refl _ _, g, h2.mono l⟩
theorem rangeOf_get {lo : Int} {n i : Nat} {d : D} (e : (rangeOf lo n)[i]? = some d) : i < n ∧ d = .int (lo + (i : Nat)) := by
  unfold rangeOf at e
  rw [List.getElem?_map] at e
  obtain ⟨j, h1, h2⟩ := Option.map_eq_some_iff.mp e
  have := List.getElem?_eq_some_iff.mp h1
  obtain ⟨h3, h4⟩ := this
  rw [List.length_range] at h3
  rw [List.getElem_range] at h4
  subst h4
  exact ⟨h3, h2.symm⟩
theorem rangeOf_length {lo : Int} {n : Nat} : (rangeOf lo n).length = n := by unfold rangeOf; rw [List.length_map, List.length_range]
theorem feedsR {G : Sg} {W : Wd} {H : Hp} {kp : Bool} {lo : Int} {n : Nat} : Feeds G kp W H (Itr lo n) (rangeOf lo n) := by
  intro W' H' r l kpp g i
  refine ⟨fun d e => ?_, fun e => ?_⟩
  · obtain ⟨h1, rfl⟩ := rangeOf_get e
    refine ⟨h1, fun u H'' y => ?_⟩
    obtain ⟨e1, e2⟩ := y
    subst e1 e2
    exact ⟨W', .refl _ _, g, .int _⟩
  · rw [rangeOf_length] at e
    exact Nat.le_of_eq e.symm

/-- a list, a tuple, a text, by what comes -/
def iSeq (K : PySem.W.Frag) (te : TE) : TI := fun σ H R => te σ H fun v H1 => (∃ a, v = .ref a ∧ (∃ xs, SqL K H1 a xs) ∧ R (Itl K a) H1) ∨ (∃ a, v = .ref a ∧ (∃ xs, SqT K H1 a xs) ∧ R (Itt K a) H1) ∨ ∃ z, v = .str z ∧ R (Its z) H1
theorem pi_seq {X : Cx} {tg e : Expr} {te : TE} (he : PE X e te) : PI X tg e (iSeq X.K te) := by
  constructor
  intro pins s σ H R I h
  refine thn (he.run pins s σ H _ I h) ?_
  rintro v s1 ⟨y, H1, I1, r1, (⟨a, rfl, ⟨xs, hq⟩, q⟩ | ⟨a, rfl, ⟨xs, hq⟩, q⟩ | ⟨z, rfl, q⟩)⟩
  · cases r1
    obtain ⟨its, rv, pl, hz⟩ := I1.list hq
    exact wpAny_pyIter_list pl.isList (pi_one (tk := s1.toks) I1 _ (turn_list a _) ⟨_, Heap.get?_push_size _ rfl, rfl, rfl⟩ q)
  · cases r1
    obtain ⟨its, rv, pl, hz⟩ := I1.tuple hq
    exact wpAny_pyIter_tuple (show s1.heap.IsTuple a its.toArray from pl) (pi_one (tk := s1.toks) I1 _ (turn_tuple a _) ⟨_, Heap.get?_push_size _ rfl, rfl, rfl⟩ q)
  · obtain ⟨t, rfl⟩ := r1
    cases ha : z.cps.all (· < 128)
    · exact wpAny_pyIter_wide ha (pi_one (tk := s1.toks) I1 _ (turn_str _ z t "str_iterator" (.inr rfl)) ⟨_, Heap.get?_push_size _ rfl, rfl, rfl⟩ q)
    · exact wpAny_pyIter_ascii ha (pi_one (tk := s1.toks) I1 _ (turn_str _ z t "str_ascii_iterator" (.inl rfl)) ⟨_, Heap.get?_push_size _ rfl, rfl, rfl⟩ q)
theorem feedsS {G : Sg} {W : Wd} {H : Hp} {kp : Bool} {z : Str} : Feeds G kp W H (Its z) (z.cps.toList.map fun c => D.str ⟨#[c]⟩) := by
  intro W' H' r l kpp g i
  refine ⟨fun d e => ?_, fun e => ?_⟩
  · rw [List.getElem?_map] at e
    obtain ⟨c, h1, rfl⟩ := Option.map_eq_some_iff.mp e
    rw [Array.getElem?_toList] at h1
    refine ⟨(Array.getElem?_eq_some_iff.mp h1).1, fun u H'' y => ?_⟩
    obtain ⟨rfl, c', e1, rfl⟩ := y
    rw [h1] at e1
    cases e1
    exact ⟨W', .refl _ _, g, .str _⟩
  · rw [List.length_map, Array.length_toList] at e
    exact Nat.le_of_eq e.symm
/-- kept or only read (then kp = true) -/
theorem iSeq_aux {a : DE} {σ : L2.St} {H : Hp} {R : It → Hp → Prop} (h : tI B true (seqI a) σ H R) : iSeq B.G.K (tP B a) σ H R := by
  obtain ⟨W, env, r, x, q, S, hx, h, k⟩ := h
  refine tP.go S hx h ?_
  intro d r1 W1 v1 H1 h1 s1 S1 p1
  split at h1
  · rcases p1 with p1 | ⟨a, vs, ds, rfl, e, g1, g2, g3, g4⟩
    · cases p1 with
      | lst q1 q2 => exact .inl ⟨_, rfl, ⟨_, .of (S1.gd.sub _ _ q1)⟩, k _ r1 h1 W1 H1 _ s1 S1.gd (feedsL (.inl (.of q1)) q2)⟩
    · cases e
      exact .inl ⟨_, rfl, ⟨_, .of g1⟩, k _ r1 h1 W1 H1 _ s1 S1.gd (feedsL (.inr ⟨rfl, g1, g3, g4⟩) g2)⟩
  · rcases p1 with p1 | ⟨a, vs, ds, rfl, e, g1, g2, g3, g4⟩
    · cases p1 with
      | tup q1 q2 => exact .inr (.inl ⟨_, rfl, ⟨_, sqT_mono S1.gd.sub q1⟩, k _ r1 h1 W1 H1 _ s1 S1.gd (feedsT q1 q2)⟩)
    · cases e
  · exact .inr (.inr ⟨_, p1.str, k _ r1 h1 W1 H1 _ s1 S1.gd feedsS⟩)
  · exact h1.elim
theorem iSeq_auxE {a : DE} {σ : L2.St} {H : Hp} {R : It → Hp → Prop} (h : tI B false (seqI a) σ H R) : iSeq B.G.K (tE B a) σ H R := by
  obtain ⟨W, env, r, x, q, S, hx, h, k⟩ := h
  refine tE.go S hx h ?_
  intro d r1 W1 v1 H1 h1 s1 S1 p1
  split at h1
  · cases p1 with
    | lst q1 q2 => exact .inl ⟨_, rfl, ⟨_, .of (S1.gd.sub _ _ q1)⟩, k _ r1 h1 W1 H1 _ s1 S1.gd (feedsL (.inl (.of q1)) q2)⟩
  · cases p1 with
    | tup q1 q2 => exact .inr (.inl ⟨_, rfl, ⟨_, sqT_mono S1.gd.sub q1⟩, k _ r1 h1 W1 H1 _ s1 S1.gd (feedsT q1 q2)⟩)
  · cases p1 with
    | str => exact .inr (.inr ⟨_, rfl, k _ r1 h1 W1 H1 _ s1 S1.gd feedsS⟩)
  · exact h1.elim
theorem pi_seqP {X : Cx} {tg e : Expr} {a : DE} (hK : X.K = B.G.K) (h : PE X e (tP B a)) : PI X tg e (tI B true (seqI a)) := PI.mono (pi_seq h) fun σ H R hw => by rw [hK]; exact iSeq_aux hw
theorem pi_seqE {X : Cx} {tg e : Expr} {a : DE} (hK : X.K = B.G.K) (h : PE X e (tE B a)) : PI X tg e (tI B false (seqI a)) := PI.mono (pi_seq h) fun σ H R hw => by rw [hK]; exact iSeq_auxE hw
theorem pi_rng1N {X : Cx} {tg a : Expr} {p pos : Pos} {da : DE} {kp : Bool} (hg : Gl X "range") (hm : X.mg "range" = none) (ha : PE X a (tP B da)) (hs : starEach [a] X.env = [(false, eval a X.env)]) : PI X tg (.Call (.Name "range" p) [a] [] pos) (tI B kp (rng1I da)) :=
  PI.mono (pi_range1 hg hm (pa_cons ha pa_nil hs) hs) fun σ H R ⟨W, env, r, x, q, S, hx, h, k⟩ => tP.go S hx h fun d r1 W1 v1 H1 h1 s1 S1 p1 => by
    split at h1
    · exact ⟨_, by rw [p1.int], h1.1.1, h1.1.2, k _ r1 h1.2 W1 H1 _ s1 S1.gd feedsR⟩
    · exact h1.elim
theorem pi_rng2N {X : Cx} {tg a b : Expr} {p pos : Pos} {da db : DE} {kp : Bool} (hg : Gl X "range") (hm : X.mg "range" = none) (ha : PE X a (tP B da)) (hb : PE X b (tP B db)) (hs : starEach [a, b] X.env = [(false, eval a X.env), (false, eval b X.env)])
    (hs2 : starEach [b] X.env = [(false, eval b X.env)]) (hs' : starEach [a, b] X.env = (false, eval a X.env) :: starEach [b] X.env) : PI X tg (.Call (.Name "range" p) [a, b] [] pos) (tI B kp (rng2I da db)) :=
  PI.mono (pi_range2 hg hm (pa_cons ha (pa_cons hb pa_nil hs2) hs') hs hs2) fun σ H R ⟨W, env, r, x, q, S, hx, h, k⟩ => tP.go S hx h fun d r1 W1 v1 H1 h1 s1 S1 p1 => tP.go S1 hx h1 fun e r2 W2 v2 H2 h2 s2 S2 p2 => by
    split at h2
    · exact ⟨_, _, by rw [p1.int, p2.int], h2.1, k _ r2 h2.2 W2 H2 _ (s1.trans s2) S2.gd feedsR⟩
    · exact h2.elim

/-! ### comprehensions -/
theorem wipeE_length (env : En) : ∀ vs : List Nat, (wipeE env vs).length = env.length
  | [] => rfl
  | v :: vs => by unfold wipeE; rw [List.length_set, wipeE_length env vs]
theorem wipeE_get {env : En} {i : Nat} {s : Sl} : ∀ {vs : List Nat}, (wipeE env vs)[i]? = some s → s = .un ∨ env[i]? = some s ∧ i ∉ vs
  | [], h => .inr ⟨h, by simp⟩
  | v :: vs, h => by
    unfold wipeE at h
    rw [List.getElem?_set] at h
    by_cases hi : v = i
    · rw [if_pos hi] at h
      split at h
      · cases h; exact .inl rfl
      · cases h
    · rw [if_neg hi] at h
      rcases wipeE_get h with e | ⟨e, hn⟩
      · exact .inl e
      · exact .inr ⟨e, by simp only [List.mem_cons, not_or]; exact ⟨fun z => hi z.symm, hn⟩⟩
theorem wipe_get {σ : L2.St} {i : Nat} : ∀ {vs : List Nat}, i ∉ vs → (wipe σ vs)[i]? = σ[i]?
  | [], _ => rfl
  | v :: vs, h => by
    simp only [List.mem_cons, not_or] at h
    unfold wipe
    rw [List.getElem?_set_ne (fun e => h.1 e.symm)]
    exact wipe_get h.2
theorem wipe_in {σ : L2.St} {i : Nat} : ∀ {vs : List Nat}, i ∈ vs → i < σ.length → (wipe σ vs)[i]? = some none
  | v :: vs, h, hl => by
    unfold wipe
    by_cases hi : v = i
    · subst hi
      rw [List.getElem?_set_self (by rw [wipe_length]; exact hl)]
    · rw [List.getElem?_set_ne hi]
      exact wipe_in ((List.mem_cons.mp h).resolve_left fun e => hi e.symm) hl
theorem wipe_eq {σ σ2 : L2.St} {vs js : List Nat} (hl : σ2.length = σ.length) (h : ∀ j, j ∉ js → σ2[j]? = (wipe σ vs)[j]?) (hj : ∀ j ∈ js, j ∈ vs) : wipe σ2 vs = wipe σ vs := by
  apply List.ext_getElem?
  intro i
  by_cases hi : i ∈ vs
  · by_cases hlt : i < σ.length
    · rw [wipe_in hi hlt, wipe_in hi (by rw [hl]; exact hlt)]
    · rw [List.getElem?_eq_none (by rw [wipe_length]; omega), List.getElem?_eq_none (by rw [wipe_length]; omega)]
  · rw [wipe_get hi, h i (fun z => hi (hj i z))]
theorem Lo.wipe {G : Sg} {H0 : Hp} (l : Lo G W H0 H env σ) (vs : List Nat) : Lo G W H0 H (wipeE env vs) (wipe σ vs) := by
  refine ⟨by rw [wipeE_length, wipe_length]; exact l.len, fun i s e => ?_, fun i j a ds es hij e1 e2 e3 => ?_⟩
  · rcases wipeE_get e with rfl | ⟨e, hn⟩
    · trivial
    · rw [wipe_get hn]
      exact l.at_ i s e
  · rcases wipeE_get e1 with z | ⟨e1, n1⟩
    · cases z
    rcases wipeE_get e2 with z | ⟨e2, n2⟩
    · cases z
    rw [wipe_get n1] at e3
    rw [wipe_get n2]
    exact l.sep i j a ds es hij e1 e2 e3
/-- a change at an address that is neither frozen nor shared nor a slot's own -/
theorem Lo.upd {G : Sg} {H0 : Hp} (l : Lo G W H0 H env σ) {p : Addr} {o : HO} (h : ∀ (i : Nat) (ds : List D), env[i]? = some (.own ds) → σ[i]? ≠ some (some (.ref p))) : Lo G W H0 (upd H p o) env σ := by
  refine ⟨l.len, fun i s e => ?_, l.sep⟩
  have q := l.at_ i s e
  cases s with
  | un => trivial
  | val d => exact q
  | own ds =>
    obtain ⟨a, vs, h1, h2, h3, h4, h5, h6⟩ := q
    have : a ≠ p := fun z => h i ds e (z ▸ h1)
    exact ⟨a, vs, h1, by rw [upd_ne this]; exact h2, h3, h4, h5, h6⟩
theorem Gd.upd {G : Sg} (g : Gd G W r H) {p : Addr} {o : HO} (h1 : W.F p = none) (h2 : p ∉ W.rho) : Gd G W r (L2.upd H p o) := by
  refine ⟨fun b u e => ?_, g.len, g.nd, g.nf, fun n b m e e' => ?_⟩
  · rw [upd_ne (ne_of_none e h1)]; exact g.sub b u e
  · refine (g.at_ n b m e e').mono (.refl W) ?_
    have : b ≠ p := fun q => h2 (q ▸ List.mem_of_getElem? e)
    rw [upd_ne this]
/-- a change of what was fresh -/
theorem Step.upd {H0 : Hp} {W0 : Wd} (s : Nv.Step W0 W H0 H) {p : Addr} {o : HO} (h : H0 p = none) : Nv.Step W0 W H0 (L2.upd H p o) := by
  refine ⟨s.le, s.newF, s.newR, fun b u e hb => ?_, fun b e => ?_⟩
  · rw [upd_ne (ne_of_none e h)]; exact s.keep b u e hb
  · have : b ≠ p := fun q => by subst q; exact e h
    rw [upd_ne this]; exact s.dom b e

/-- within a block no exception is wished -/
abbrev Bs.nox (B : Bs) : Bs := { B with wx := fun _ _ _ _ => False }
theorem Stt.nox (S : Stt B W env r σ H) : Stt B.nox W env r σ H := ⟨S.lo, S.gd, S.st⟩
theorem Stt.unnox (S : Stt B.nox W env r σ H) : Stt B W env r σ H := ⟨S.lo, S.gd, S.st⟩
/-- a clause's tests -/
theorem PTs.mono {X : Cx} {e : List Expr} {t t' : TT} (h : PTs X e t) (k : ∀ σ H Q, t' σ H Q → t σ H Q) : PTs X e t' := ⟨fun pins s σ H Q I hw => h.run pins s σ H Q I (k σ H Q hw)⟩
theorem pts_nilN {X : Cx} : PTs X [] (tT B yesT) := PTs.mono pts_nil fun σ H Q ⟨W, env, r, x, q, S, hx, h, k⟩ => k true r h W H (.refl W H) S.gd
theorem pts_oneN {X : Cx} {c : Expr} {t : DT} (h : PT X c (tT B t)) : PTs X [c] (tT B t) := pts_one h

/-- the reading of a comprehension -/
theorem tLc_of {it : DI} {tg : DG} {t : DT} {elt : DE} {vs js : List Nat} (hjs : ∀ j ∈ js, j ∈ vs) {σ : L2.St} {H : Hp} {Q : VK} (h : tFr B (compD it tg t elt vs) σ H Q) :
    tLc (tI B true it) (tG B.nox tg js) (tT B.nox t) (tE B.nox elt) vs σ H Q := by
  obtain ⟨W, env, r, x, q, S, hx, h, k⟩ := h
  refine ⟨W, env, r, x, _, S, hx, h, fun items r1 hq W1 H1 J s1 g1 feed => fun D hD => ?_⟩
  have S1 : Stt B W1 env r1 σ H1 := S.step s1 g1
  have own_ne : ∀ (i : Nat) (ds : List Nv.D), env[i]? = some (.own ds) → σ[i]? ≠ some (some (.ref D)) := fun i ds e z => by
    obtain ⟨a, ws, h1, h2, _⟩ := S1.lo.at_ i _ e
    rw [z] at h1
    cases h1
    rw [hD] at h2
    cases h2
  have H0D : B.H0 D = none := Classical.byContradiction fun z => S1.st.dom D z hD
  have HD : H D = none := Classical.byContradiction fun z => s1.dom D z hD
  let St1 : Nat → Hp → List Nv.D → List Nv.D → Rs → Prop := fun i H' rest acc r' => ∃ W' accV, Nv.Step W1 W' H1 H' ∧ Stt B W' env r' σ H' ∧ H' D = some (.lst accV) ∧ DpA B.G W' accV acc ∧ W'.F D = none ∧ D ∉ W'.rho ∧ rest = items.drop i ∧ i ≤ items.length ∧
    compW tg t elt (wipeE env vs) (fun ds r => q (.lst ds) r) rest acc r'
  refine ⟨fun i m H' => m = items.length - i ∧ ∃ rest acc r', St1 i H' rest acc r', ⟨_, by rfl, items, [], r1, W1, [], .new hD, ⟨S1.lo.upd own_ne, S1.gd.new hD, S1.st.upd H0D⟩, upd_same, .nil, S1.gd.fnone hD, S1.gd.rnone hD, by simp, Nat.zero_le _, hq⟩, ?_⟩
  rintro i m H' ⟨rfl, rest, acc, r', W', accV, sW, S', hacc, pacc, hF, hR, rfl, hi, hc⟩
  have fd := feed W' H' r' sW.le (fun _ b o e e1 e2 => sW.keep b o e e2) S'.gd i
  by_cases hlt : i < items.length
  · have hget : items[i]? = some items[i] := List.getElem?_eq_getElem hlt
    have hdrop : items.drop i = items[i] :: items.drop (i + 1) := List.drop_eq_getElem_cons hlt
    rw [hdrop] at hc
    obtain ⟨go, step⟩ := fd.1 _ hget
    refine .inr ⟨go, fun H2 => ∃ rest acc r', St1 (i + 1) H2 rest acc r', fun H2 h2 => ⟨items.length - (i + 1), by omega, rfl, h2⟩, fun xv H2 y => ?_⟩
    obtain ⟨W2, s2, g2, px⟩ := step xv H2 y
    have S2 : Stt B W2 env r' σ H2 := S'.step s2 g2
    have hc : tg items[i] (wipeE env vs) fun env3 => t env3 r' (fun _ _ _ _ => False) fun c r1 => if c then elt env3 r1 (fun _ _ _ _ => False) fun y r2 => acc.length < sizeLine ∧ compW tg t elt (wipeE env vs) (fun ds r => q (.lst ds) r) (items.drop (i + 1)) (acc ++ [y]) r2 else compW tg t elt (wipeE env vs) (fun ds r => q (.lst ds) r) (items.drop (i + 1)) acc r1 := hc
    have S2w : Stt B.nox W2 (wipeE env vs) r' (wipe σ vs) H2 := ⟨S2.lo.wipe vs, S2.gd, S2.st⟩
    obtain ⟨d1, d2, d3⟩ := s2.own hacc hF hR
    refine ⟨W2, wipeE env vs, r', _, _, S2w, px, hc, fun env3 h3 σ3 S3 o3 => ⟨wipe_eq (o3.1.trans (wipe_length σ vs)) o3.2 hjs, ?_⟩⟩
    refine tT.go S3 (fun _ _ _ _ z => z.elim) h3 ?_
    intro c r4 W4 H4 h4 s4 S4
    obtain ⟨f1, f2, f3⟩ := s4.own d1 d2 d3
    cases c with
    | false =>
      refine iteF ⟨_, acc, r4, W4, accV, (sW.trans s2).trans s4, S2.step s4 S4.gd, f1, (pacc.mono s2.le).mono s4.le, f2, f3, rfl, hlt, h4⟩
    | true =>
      refine iteT (tE.go S4 (fun _ _ _ _ z => z.elim) h4 ?_)
      intro yd r5 W5 yv H5 h5 s5 S5 p5
      obtain ⟨e1, e2, e3⟩ := s5.own f1 f2 f3
      have S25 : Stt B W5 env r5 σ H5 := (S2.step s4 S4.gd).step s5 S5.gd
      refine ⟨accV, e1, by rw [pacc.length]; exact h5.1, _, acc ++ [yd], r5, W5, accV ++ [yv], ?_, ⟨S25.lo.upd own_ne, S25.gd.upd e2 e3, S25.st.upd H0D⟩, upd_same, (((pacc.mono s2.le).mono s4.le).mono s5.le).append (.one p5), e2, e3, rfl, hlt, h5.2⟩
      exact Step.upd (((sW.trans s2).trans s4).trans s5) hD
  · have hil : i = items.length := by omega
    have hrest : items.drop i = [] := by rw [hil]; simp
    rw [hrest] at hc
    refine .inl ⟨fd.2 hil, ?_⟩
    exact k _ _ hc W' H' D accV acc (s1.trans sW) S'.gd rfl hacc pacc hF hR HD
theorem pe_lcN {X : Cx} {elt tgt iter : Expr} {ifs : List Expr} {scope : Scope} {own : List (Str × Nat)} {pos : Pos} {it : DI} {tg : DG} {t : DT} {de : DE} {js : List Nat} (hc : X.calm = true) (hN : X.N.Nodup) (hi : PI X tgt iter (tI B true it)) (ok : BlkOk X.N X.env.scope scope own)
    (hg : ∀ (s : Shared) (H : Hp) (C : Addr) (cl : List (Str × Addr)) (fp : List Addr), PG (X.blk s H scope (compEnvC scope cl C X.env) fp) tgt (tG B.nox tg js)) (ht : ∀ (s : Shared) (H : Hp) (C : Addr) (cl : List (Str × Addr)) (fp : List Addr), PTs (X.blk s H scope (compEnvC scope cl C X.env) fp) ifs (tT B.nox t))
    (he : ∀ (s : Shared) (H : Hp) (C : Addr) (cl : List (Str × Addr)) (fp : List Addr), PE (X.blk s H scope (compEnvC scope cl C X.env) fp) elt (tE B.nox de)) (hs : ∀ x, foldedSetIterable iter X.env x = pure x) (hjs : ∀ j ∈ js, j ∈ own.map (·.2)) :
    PE X (.ListComp elt [⟨tgt, iter, ifs, 0⟩] scope pos) (tFr B (compD it tg t de (own.map (·.2)))) := PE.mono (pe_lc hc hN hi ok hg ht he hs) fun σ H Q h => tLc_of hjs h
end
end Nv

/-! N7: statements; a def by its body. -/
namespace Nv
open PySem PySem.Spec PyProof.Rows L2

section
variable {B : Bs} {W W' : Wd} {env env' : En} {r r' : Rs} {σ σ' : L2.St} {H H' : Hp} {x : Xk}
structure KtOk (B : Bs) (k : Kt) (E : Ends) : Prop where
  nx : ∀ env r, k.nx env r → ∀ W σ H, Stt B W env r σ H → E.nx σ H
  bk : ∀ env r, k.bk env r → ∀ W σ H, Stt B W env r σ H → E.bk σ H
  ct : ∀ env r, k.ct env r → ∀ W σ H, Stt B W env r σ H → E.ct σ H
  rt : ∀ d r, k.rt d r → ∀ W v H, Gd B.G W r H → Nv.Step B.W0 W B.H0 H → Dp B.G W v d → E.rt v H
def tS (B : Bs) (den : DS) : TS := fun E σ H => ∃ W env r k, Stt B W env r σ H ∧ Xl B k.x ∧ den env r k ∧ KtOk B k E
theorem PS.mono {X : Cx} {st : Stmt} {t t' : TS} (h : PS X st t) (k : ∀ E σ H, t' E σ H → t E σ H) : PS X st t' := ⟨fun pins s σ H E I hw => h.run pins s σ H E I (k E σ H hw)⟩
theorem PSs.mono {X : Cx} {st : List Stmt} {t t' : TS} (h : PSs X st t) (k : ∀ E σ H, t' E σ H → t E σ H) : PSs X st t' := ⟨fun pins s σ H E I hw => h.run pins s σ H E I (k E σ H hw)⟩
theorem tS.go {den : DS} {k : Kt} {E : Ends} (S : Stt B W env r σ H) (hx : Xl B k.x) (h : den env r k) (ok : KtOk B k E) : tS B den E σ H := ⟨W, env, r, k, S, hx, h, ok⟩
theorem KtOk.withNx {k : Kt} {E : Ends} (ok : KtOk B k E) {n : En → Rs → Prop} {m : L2.St → Hp → Prop} (h : ∀ env r, n env r → ∀ W σ H, Stt B W env r σ H → m σ H) : KtOk B { k with nx := n } { E with nx := m } := ⟨h, ok.bk, ok.ct, ok.rt⟩

theorem pss_nilN {X : Cx} : PSs X [] (tS B skipS) := PSs.mono pss_nil fun E σ H ⟨W, env, r, k, S, hx, h, ok⟩ => ok.nx _ _ h W σ H S
theorem pss_oneN {X : Cx} {st : Stmt} {a : DS} (h : PS X st (tS B a)) : PSs X [st] (tS B a) := pss_one h
theorem pss_consN {X : Cx} {st : Stmt} {rest : List Stmt} {a b : DS} (h : PS X st (tS B a)) (h2 : PSs X rest (tS B b)) : PSs X (st :: rest) (tS B (seqS a b)) :=
  PSs.mono (pss_cons h h2) fun E σ H ⟨W, env, r, k, S, hx, h, ok⟩ => ⟨W, env, r, { k with nx := fun env r => b env r k }, S, hx, h, ok.withNx fun env r h W σ H S => ⟨W, env, r, k, S, hx, h, ok⟩⟩
/-- an own list is kept from here on -/
theorem Stt.frz (S : Stt B W env r σ H) {i : Nat} {ds : List D} (e : env[i]? = some (.own ds)) : ∃ W', Stt B W' (env.set i (.val (.lst ds))) r σ H := by
  obtain ⟨a, vs, h1, h2, h3, h4, h5, h6⟩ := S.lo.at_ i _ e
  refine ⟨W.frz a (.lst vs), ?_, S.gd.frz h2 h4 h5, S.st.frz h6 h4⟩
  have hlt : i < σ.length := (List.getElem?_eq_some_iff.mp h1).1
  have l1 : Lo B.G W B.H0 H (env.set i .un) σ := by
    refine ⟨by rw [List.length_set]; exact S.lo.len, fun j s e => ?_, fun j j' b xs ys hj e1 e2 e3 => ?_⟩
    · rw [List.getElem?_set] at e
      by_cases hij : i = j
      · rw [if_pos hij] at e
        split at e
        · cases e; trivial
        · cases e
      · rw [if_neg hij] at e
        exact S.lo.at_ j s e
    · have hne : ∀ {j : Nat} {zs : List D}, (env.set i .un)[j]? = some (.own zs) → env[j]? = some (.own zs) := fun {j zs} e => by
        rw [List.getElem?_set] at e
        by_cases hij : i = j
        · rw [if_pos hij] at e
          split at e <;> cases e
        · rw [if_neg hij] at e
          exact e
      exact S.lo.sep j j' b xs ys hj (hne e1) (hne e2) e3
  have l2 : Lo B.G (W.frz a (.lst vs)) B.H0 H (env.set i .un) σ := by
    refine ⟨l1.len, fun j s e => ?_, l1.sep⟩
    have q := l1.at_ j s e
    cases s with
    | un => trivial
    | val d => obtain ⟨v, g1, g2⟩ := q; exact ⟨v, g1, g2.mono (.frz h4)⟩
    | own es =>
      obtain ⟨b, ws, g1, g2, g3, g4, g5, g6⟩ := q
      have hij : i ≠ j := fun z => by
        subst z
        rw [List.getElem?_set_self (by rw [S.lo.len]; exact hlt)] at e
        cases e
      have hb : b ≠ a := fun z => by
        subst z
        rw [List.getElem?_set_ne hij] at e
        exact S.lo.sep i j _ _ _ hij ‹env[i]? = some (.own ds)› e h1 g1
      exact ⟨b, ws, g1, g2, g3.mono (.frz h4), by show L2.upd W.F a _ b = none; rw [upd_ne hb]; exact g4, g5, g6⟩
  have l3 := l2.setVal i (v := .ref a) (d := .lst ds) (.lst frz_same (h3.mono (.frz h4)))
  rw [List.set_set] at l3
  have e2 : σ.set i (some (.ref a)) = σ := by
    apply List.ext_getElem?
    intro j
    rw [List.getElem?_set]
    by_cases hij : i = j
    · subst hij
      rw [if_pos rfl, if_pos hlt, h1]
    · rw [if_neg hij]
  rw [e2] at l3
  exact l3
theorem ps_frzN {X : Cx} {st : Stmt} {a : DS} (i : Nat) (h : PS X st (tS B a)) : PS X st (tS B (seqS (frzS i) a)) :=
  PS.mono h fun E σ H ⟨W, env, r, k, S, hx, h, ok⟩ => by
    have h : frzS i env r { k with nx := fun env r => a env r k } := h
    unfold frzS at h
    split at h
    · rename_i ds e
      obtain ⟨W', S'⟩ := S.frz e
      exact ⟨W', _, r, k, S', hx, h, ok⟩
    · exact ⟨W, env, r, k, S, hx, h, ok⟩

theorem ps_exN {X : Cx} {e : Expr} {pos : Pos} {a : DE} (h : PE X e (tP B a)) (hs : swapsWith e none pos.line X.env = pure false) : PS X (.Expr e pos) (tS B (exS a)) :=
  PS.mono (ps_expr h hs) fun E σ H ⟨W, env, r, k, S, hx, h, ok⟩ => tP.go S hx h fun d r1 W1 v1 H1 h1 s1 S1 p1 => ok.nx _ _ h1 W1 σ H1 S1
theorem ps_setN {X : Cx} {i : Nat} {n : Str} {e : Expr} {pos pos' : Pos} {a : DE} (hN : X.N.Nodup) (hi : X.N[i]? = some n) (hl : Loc X.env.scope n) (hf : X.fn n = true ∨ X.env.scope.names.lookup n = some .local) (h : PE X e (tE B a)) (hs : swapsWith e (some (.Name n pos')) pos.line X.env = pure false) :
    PS X (.Assign [.Name n pos'] e pos) (tS B (setS i a)) :=
  PS.mono (L2.ps_set hN hi hl h hs hf) fun E σ H ⟨W, env, r, k, S, hx, h, ok⟩ => tE.go S hx h fun d r1 W1 v1 H1 h1 s1 S1 p1 => ok.nx _ _ h1 W1 _ H1 (S1.setVal i p1)
theorem own_fresh (S1 : Stt B W env r σ H) {a : Addr} (hd : ∀ (j : Nat) (es : List D), env[j]? = some (.own es) → σ[j]? ≠ some (some (.ref a))) {i : Nat} {vs : List V} {ds : List D} (h1 : H a = some (.lst vs)) (h2 : DpA B.G W vs ds) (h3 : W.F a = none) (h4 : a ∉ W.rho) (h5 : B.H0 a = none) :
    Stt B W (env.set i (.own ds)) r (σ.set i (some (.ref a))) H := ⟨S1.lo.setOwn i h1 h2 h3 h4 h5 fun j es _ e => hd j es e, S1.gd, S1.st⟩
theorem fresh_no (S : Stt B W env r σ H) {a : Addr} (h : H a = none) : B.H0 a = none ∧ ∀ (j : Nat) (es : List D), env[j]? = some (.own es) → σ[j]? ≠ some (some (.ref a)) :=
  ⟨Classical.byContradiction fun z => S.st.dom a z h, fun j es e z => by
    obtain ⟨b, ws, g1, g2, _⟩ := S.lo.at_ j _ e
    rw [z] at g1
    cases g1
    rw [h] at g2
    cases g2⟩
theorem setO_aux {i : Nat} {a : DE} {E : Ends} (h : tS B (setO i a) E σ H) : tAsg (tFr B a) (gName i) E σ H := by
  obtain ⟨W, env, r, k, S, hx, h, ok⟩ := h
  refine tFr.go S hx h ?_
  intro ds r1 W1 H1 b vs h1 s1 S1 g1 g2 g3 g4 g5
  obtain ⟨f1, f2⟩ := fresh_no S g5
  exact ok.nx _ _ h1 W1 _ H1 (own_fresh S1 f2 g1 g2 g3 g4 f1)
theorem ps_setON {X : Cx} {i : Nat} {n : Str} {e : Expr} {pos pos' : Pos} {a : DE} (hN : X.N.Nodup) (hi : X.N[i]? = some n) (hl : Loc X.env.scope n) (hf : X.fn n = true ∨ X.env.scope.names.lookup n = some .local) (h : PE X e (tFr B a)) (hs : swapsWith e (some (.Name n pos')) pos.line X.env = pure false) :
    PS X (.Assign [.Name n pos'] e pos) (tS B (setO i a)) := PS.mono (L2.ps_set hN hi hl h hs hf) fun E σ H h => setO_aux h
/-- name = [..] on one line -/
theorem setLc_aux {i : Nat} {a : DE} {E : Ends} (h : tS B (setS i a) E σ H) : tAsg (tFr B a) (gName i) E σ H := by
  obtain ⟨W, env, r, k, S, hx, h, ok⟩ := h
  refine tFr.go S hx h ?_
  intro ds r1 W1 H1 b vs h1 s1 S1 g1 g2 g3 g4 g5
  have f1 : B.H0 b = none := (fresh_no S g5).1
  have S2 : Stt B (W1.frz b (.lst vs)) env r1 σ H1 := S.step (s1.frz g5 g3) (S1.gd.frz g1 g3 g4)
  exact ok.nx _ _ h1 _ _ H1 (S2.setVal i (.lst frz_same (g2.mono (.frz g3))))
theorem ps_lcOf {X : Cx} {i : Nat} {y : Str} {py : Pos} {elt tgt iter : Expr} {ifs : List Expr} {scope : Scope} {own : List (Str × Nat)} {pos spos : Pos} {it : DI} {tg : DG} {t : DT} {de : DE} {js : List Nat} {den : DS} (hc : X.calm = true) (hN : X.N.Nodup) (hy : X.N[i]? = some y)
    (hyl : X.env.scope.names.lookup y = some .local) (hsw : swapsWith (.ListComp elt [⟨tgt, iter, ifs, 0⟩] scope pos) (some (.Name y py)) spos.line X.env = pure true) (hi : PI X tgt iter (tI B true it)) (ok : BlkOk X.N X.env.scope scope own)
    (hg : ∀ (s : Shared) (H : Hp) (C : Addr) (cl : List (Str × Addr)) (fp : List Addr), PG (X.blk s H scope (compEnvC scope cl C X.env) fp) tgt (tG B.nox tg js)) (ht : ∀ (s : Shared) (H : Hp) (C : Addr) (cl : List (Str × Addr)) (fp : List Addr), PTs (X.blk s H scope (compEnvC scope cl C X.env) fp) ifs (tT B.nox t))
    (he : ∀ (s : Shared) (H : Hp) (C : Addr) (cl : List (Str × Addr)) (fp : List Addr), PE (X.blk s H scope (compEnvC scope cl C X.env) fp) elt (tE B.nox de)) (hs : ∀ x, foldedSetIterable iter X.env x = pure x) (hjs : ∀ j ∈ js, j ∈ own.map (·.2))
    (hd : ∀ E σ H, tS B den E σ H → tAsg (tFr B (compD it tg t de (own.map (·.2)))) (gName i) E σ H) :
    PS X (.Assign [.Name y py] (.ListComp elt [⟨tgt, iter, ifs, 0⟩] scope pos) spos) (tS B den) :=
  PS.mono (L2.ps_setLc hc hN hy hyl hsw hi ok hg ht he hs) fun E σ H h => tLc_of hjs (hd E σ H h)
theorem ps_letN {X : Cx} {tgt e : Expr} {pos : Pos} {g : DG} {js : List Nat} {a : DE} (h : PE X e (tE B a)) (hg : PG X tgt (tG B g js)) (hs : swapsWithSole [tgt] e pos.line X.env = pure false) (hw : swappedStores [tgt] e X.env = pure none) (h1 : (assignEach [tgt] X.env).map (·.2) = [assign tgt X.env]) :
    PS X (.Assign [tgt] e pos) (tS B (letS g a)) :=
  PS.mono (ps_asg h hg hs hw h1) fun E σ H ⟨W, env, r, k, S, hx, h, ok⟩ => tE.go S hx h fun d r1 W1 v1 H1 h1 s1 S1 p1 => ⟨W1, env, r1, d, _, S1, p1, h1, fun env' h' σ' S' _ => ok.nx _ _ h' W1 σ' H1 S'⟩
theorem ps_retNN {X : Cx} {e : Expr} {pos : Pos} {a : DE} (h : PE X e (tE B a)) : PS X (.Return (some e) pos) (tS B (retS a)) :=
  PS.mono (ps_ret h) fun E σ H ⟨W, env, r, k, S, hx, h, ok⟩ => tE.go S hx h fun d r1 W1 v1 H1 h1 s1 S1 p1 => ok.rt _ _ h1 W1 v1 H1 S1.gd S1.st p1
theorem ps_ret0N {X : Cx} {pos : Pos} : PS X (.Return none pos) (tS B retN) := PS.mono ps_retN fun E σ H ⟨W, env, r, k, S, hx, h, ok⟩ => ok.rt _ _ h W _ H S.gd S.st .non
theorem ps_passN {X : Cx} {pos : Pos} : PS X (.Pass pos) (tS B skipS) := PS.mono ps_pass fun E σ H ⟨W, env, r, k, S, hx, h, ok⟩ => ok.nx _ _ h W σ H S
theorem ps_brkN {X : Cx} {pos : Pos} : PS X (.Break pos) (tS B brkS) := PS.mono ps_break fun E σ H ⟨W, env, r, k, S, hx, h, ok⟩ => ok.bk _ _ h W σ H S
theorem ps_cntN {X : Cx} {pos : Pos} : PS X (.Continue pos) (tS B cntS) := PS.mono ps_continue fun E σ H ⟨W, env, r, k, S, hx, h, ok⟩ => ok.ct _ _ h W σ H S
theorem ps_ifN {X : Cx} {c : Expr} {as bs : List Stmt} {pos : Pos} {t : DT} {a b : DS} (h : PT X c (tT B t)) (ha : PSs X as (tS B a)) (hb : PSs X bs (tS B b)) : PS X (.If c as bs pos) (tS B (ifS t a b)) :=
  PS.mono (ps_if h ha hb) fun E σ H ⟨W, env, r, k, S, hx, h, ok⟩ => tT.go S hx h fun d r1 W1 H1 h1 s1 S1 => by
    cases d with
    | true => exact iteT ⟨W1, env, r1, k, S1, hx, h1, ok⟩
    | false => exact iteF ⟨W1, env, r1, k, S1, hx, h1, ok⟩
theorem ps_whN {X : Cx} {c : Expr} {body : List Stmt} {pos : Pos} {t : DT} {b : DS} (hp : PassesOwn (model X.prog X.w) X.A X.env X.xe) (h : PT X c (tT B t)) (hb : PSs X body (tS B b)) : PS X (.While c body [] pos) (tS B (whS t b)) :=
  PS.mono (ps_while hp h hb) fun E σ H ⟨W, env, r, k, S, hx, ⟨n, h⟩, ok⟩ => by
    refine ⟨fun m σ H => ∃ W env r, Stt B W env r σ H ∧ whW t b k m env r, ⟨n, W, env, r, S, h⟩, ?_⟩
    rintro m σ H ⟨W, env, r, S, h⟩
    cases m with
    | zero => exact h.elim
    | succ m =>
      refine tT.go S hx h fun d r1 W1 H1 h1 s1 S1 => ?_
      cases d with
      | false => exact iteF (ok.nx _ _ h1 W1 σ H1 S1)
      | true =>
        refine iteT ⟨fun σ H => ∃ W env r, Stt B W env r σ H ∧ whW t b k m env r, fun σ' H' h' => ⟨m, Nat.lt_succ_self m, h'⟩, W1, env, r1, { k with nx := whW t b k m, ct := whW t b k m, bk := k.nx }, S1, hx, h1, ?_⟩
        exact ⟨fun env r h W σ H S => ⟨W, env, r, S, h⟩, ok.nx, fun env r h W σ H S => ⟨W, env, r, S, h⟩, ok.rt⟩
theorem Step.since {W0 W1 : Wd} {H0 : Hp} (s : Nv.Step W0 W H0 H) (h : Le W0 W1) (l : Le W1 W) : Nv.Step W1 W H0 H := by
  refine ⟨l, fun b q => ?_, fun b q => ?_, fun b o e q => s.keep b o e fun z => q (h.mem z), s.dom⟩
  · rcases s.newF b q with z | z
    · refine .inl fun y => ?_
      cases e : W0.F b with
      | none => exact z e
      | some u => rw [h.fr b u e] at y; cases y
    · exact .inr z
  · rcases s.newR b q with z | z
    · exact .inl (h.mem z)
    · exact .inr z
theorem Step.before {W0 W1 : Wd} {H0 H1 : Hp} (s : Nv.Step W1 W H0 H) (s0 : Nv.Step W0 W1 H0 H1) : Nv.Step W0 W H0 H := by
  refine ⟨s0.le.trans s.le, fun b q => ?_, fun b q => ?_, fun b o e q => ?_, s.dom⟩
  · rcases s.newF b q with z | z
    · exact s0.newF b z
    · exact .inr z
  · rcases s.newR b q with z | z
    · exact s0.newR b z
    · exact .inr z
  · refine s.keep b o e fun z => ?_
    rcases s0.newR b z with y | y
    · exact q y
    · rw [e] at y; cases y
abbrev Bs.at (B : Bs) (W1 : Wd) : Bs := { B with W0 := W1 }
theorem Stt.since {W1 : Wd} (S : Stt B W env r σ H) (h : Le B.W0 W1) (l : Le W1 W) : Stt (B.at W1) W env r σ H := ⟨S.lo, S.gd, S.st.since h l⟩
theorem Stt.before {W1 : Wd} {H1 : Hp} (S : Stt (B.at W1) W env r σ H) (s0 : Nv.Step B.W0 W1 B.H0 H1) : Stt B W env r σ H := ⟨S.lo, S.gd, Step.before S.st s0⟩
theorem Xl.at {W1 : Wd} {H1 : Hp} (hx : Xl B x) (s0 : Nv.Step B.W0 W1 B.H0 H1) : Xl (B.at W1) x := fun c fs env r h W σ H dx kvs S => hx c fs env r h W σ H dx kvs (S.before s0)
theorem PSs.ex {α : Type} {X : Cx} {st : List Stmt} {t : α → TS} (h : ∀ a, PSs X st (t a)) : PSs X st (fun E σ H => ∃ a, t a E σ H) := ⟨fun pins s σ H E I ⟨a, hw⟩ => (h a).run pins s σ H E I hw⟩
theorem PG.ex {α : Type} {X : Cx} {tg : Expr} {t : α → TG} (h : ∀ a, PG X tg (t a)) : PG X tg (fun v σ H Q => ∃ a, t a v σ H Q) := ⟨fun pins s σ H v u Q I rv ⟨a, hw⟩ => (h a).run pins s σ H v u Q I rv hw⟩
theorem ps_forN {X : Cx} {tgt iter : Expr} {body : List Stmt} {pos : Pos} {it : DI} {g : DG} {js : List Nat} {b : DS} (hp : PassesOwn (model X.prog X.w) X.A X.env X.xe) (hc : X.calm = true) (hi : PI X tgt iter (tI B false it)) (hg : ∀ W1, PG X tgt (tG (B.at W1) g js)) (hb : ∀ W1, PSs X body (tS (B.at W1) b))
    (hs : ∀ x, foldedSetIterable iter X.env x = pure x) : PS X (.For tgt iter body [] pos) (tS B (forS it g b)) :=
  PS.mono (ps_for hp hc hi (PG.ex hg) (PSs.ex hb) hs) fun E σ H ⟨W, env, r, k, S, hx, h, ok⟩ => by
    refine ⟨W, env, r, k.x, _, S, hx, h, fun items r1 hq W1 H1 J s1 g1 feed => ?_⟩
    have S1 := S.step s1 g1
    refine ⟨fun i m σ H => m = items.length - i ∧ i ≤ items.length ∧ ∃ W env r, Stt (B.at W1) W env r σ H ∧ forW g b k (items.drop i) env r, ⟨_, rfl, Nat.zero_le _, W1, env, r1, S1.since S1.st.le (.refl _), by simpa using hq⟩, ?_⟩
    rintro i m σ H ⟨rfl, hi, W2, env2, r2, S2, h2⟩
    have fd := feed W2 H r2 S2.st.le (fun z => by cases z) S2.gd i
    by_cases hlt : i < items.length
    · have hget : items[i]? = some items[i] := List.getElem?_eq_getElem hlt
      have hdrop : items.drop i = items[i] :: items.drop (i + 1) := List.drop_eq_getElem_cons hlt
      rw [hdrop] at h2
      obtain ⟨go, step⟩ := fd.1 _ hget
      refine .inr ⟨go, fun σ H => i + 1 ≤ items.length ∧ ∃ W env r, Stt (B.at W1) W env r σ H ∧ forW g b k (items.drop (i + 1)) env r, fun σ' H' h' => ⟨items.length - (i + 1), by omega, rfl, h'.1, h'.2⟩, fun xv H3 y => ?_⟩
      obtain ⟨W3, s3, g3, px⟩ := step xv H3 y
      have S3 := S2.step s3 g3
      have h2 : g items[i] env2 fun env => b env r2 { k with nx := forW g b k (items.drop (i + 1)), ct := forW g b k (items.drop (i + 1)), bk := k.nx } := h2
      refine ⟨W1, W3, env2, r2, items[i], _, S3, px, h2, fun env' h' σ' S' _ => ⟨W1, W3, env', r2, { k with nx := forW g b k (items.drop (i + 1)), ct := forW g b k (items.drop (i + 1)), bk := k.nx }, S', hx.at S1.st, h', ?_⟩⟩
      exact ⟨fun env r h W σ H S => ⟨hlt, W, env, r, S, h⟩, fun env r h W σ H S => ok.nx _ _ h W σ H (S.before S1.st), fun env r h W σ H S => ⟨hlt, W, env, r, S, h⟩, fun d r h W v H g s p => ok.rt d r h W v H g (Step.before s S1.st) p⟩
    · have hil : i = items.length := by omega
      have hrest : items.drop i = [] := by rw [hil]; simp
      rw [hrest] at h2
      exact .inl ⟨fd.2 hil, ok.nx _ _ h2 W2 σ H (S2.before S1.st)⟩

/-! ### own lists changed -/
theorem Lo.change {G : Sg} {H0 : Hp} (l : Lo G W H0 H env σ) {i : Nat} {a : Addr} {ds es : List D} {vs ws : List V} (e : env[i]? = some (.own ds)) (hs : σ[i]? = some (some (.ref a))) (ha : H a = some (.lst vs)) (p : DpA G W ws es) (h4 : W.F a = none) (h5 : a ∉ W.rho) (h6 : H0 a = none) :
    Lo G W H0 (L2.upd H a (.lst ws)) (env.set i (.own es)) σ := by
  have hlt : i < env.length := (List.getElem?_eq_some_iff.mp e).1
  have hown : ∀ {j : Nat} {zs : List D}, (env.set i (.own es))[j]? = some (.own zs) → ∃ ys, env[j]? = some (.own ys) := fun {j zs} q => by
    rw [List.getElem?_set] at q
    by_cases hij : i = j
    · subst hij; exact ⟨ds, e⟩
    · rw [if_neg hij] at q; exact ⟨zs, q⟩
  refine ⟨by rw [List.length_set]; exact l.len, fun j s q => ?_, fun j j' b xs ys hj e1 e2 e3 => ?_⟩
  · rw [List.getElem?_set] at q
    by_cases hij : i = j
    · subst hij
      rw [if_pos rfl, if_pos hlt] at q
      cases q
      exact ⟨a, ws, hs, upd_same, p, h4, h5, h6⟩
    · rw [if_neg hij] at q
      have z := l.at_ j s q
      cases s with
      | un => trivial
      | val d => exact z
      | own xs =>
        obtain ⟨b, us, g1, g2, g3, g4, g5, g6⟩ := z
        have hb : b ≠ a := fun y => by subst y; exact l.sep i j _ _ _ hij e q hs g1
        exact ⟨b, us, g1, by rw [upd_ne hb]; exact g2, g3, g4, g5, g6⟩
  · obtain ⟨us, f1⟩ := hown e1
    obtain ⟨ws', f2⟩ := hown e2
    exact l.sep j j' b us ws' hj f1 f2 e3
theorem Stt.change (S : Stt B W env r σ H) {i : Nat} {a : Addr} {ds es : List D} {vs ws : List V} (e : env[i]? = some (.own ds)) (hs : σ[i]? = some (some (.ref a))) (ha : H a = some (.lst vs)) (p : DpA B.G W ws es) (h4 : W.F a = none) (h5 : a ∉ W.rho) (h6 : B.H0 a = none) :
    Stt B W (env.set i (.own es)) r σ (L2.upd H a (.lst ws)) := ⟨S.lo.change e hs ha p h4 h5 h6, S.gd.upd h4 h5, S.st.upd h6⟩
theorem ps_appN {X : Cx} {i : Nat} {n : Str} {e : Expr} {np apos cpos pos : Pos} {a : DE} (hN : X.N[i]? = some n) (hv : Vis X.env.scope n) (hd : (n == ("__debug__" : Str)) = false) (hcd : (n == ("__classdict__" : Str)) = false) (h : PE X e (tE B a))
    (hbase : attributeBase (.Name n np) "append" X.env (eval (.Name n np) X.env) = eval (.Name n np) X.env)
    (hfew : ((backTo cpos (starEach [e] X.env)).all (fun x => !x.1) && (backToKw cpos (keywordEach [] X.env)).all (fun x => x.1.isSome) && decide ([e].length + ([] : List Keyword).length + (if ([] : List Keyword).isEmpty then 0 else 1) < 30)) = true)
    (hline : (apos.endLine == cpos.line) = true) (hs : starEach [e] X.env = (false, eval e X.env) :: starEach [] X.env) (hpl : (backTo cpos (starEach [] X.env)).any (·.1) = false) (hsw : swapsWith (.Call (.Attribute (.Name n np) "append" apos) [e] [] cpos) none pos.line X.env = pure false) :
    PS X (.Expr (.Call (.Attribute (.Name n np) "append" apos) [e] [] cpos) pos) (tS B (appS i a)) :=
  PS.mono (ps_expr (pe_bm PySem.F.plainAttrs_list PySem.F.slot_list_append PySem.F.type_list_append mt_append (pe_var hN hv hd hcd) (pa_cons h pa_nil hs) hbase hfew hline hs hpl) hsw) fun E σ H ⟨W, env, r, k, S, hx, h, ok⟩ => by
    have h : appS i a env r k := h
    unfold appS at h
    split at h
    · rename_i ds e
      obtain ⟨b, vs, h1, h2, h3, h4, h5, h6⟩ := S.lo.at_ i _ e
      refine ⟨_, h1, .inl ⟨rfl, vs, .of h2⟩, ?_⟩
      refine tE.go S hx h ?_
      intro d r1 W1 v1 H1 h1' s1 S1 p1
      obtain ⟨g1, g2, g3⟩ := s1.own h2 h4 h5
      have pv := h3.mono s1.le
      refine ⟨b, vs, v1, rfl, rfl, g1, by rw [pv.length]; exact h1'.1, ?_⟩
      exact ok.nx _ _ h1'.2 W1 σ _ (S1.change e h1 g1 (pv.append (.one p1)) g2 g3 h6)
    · exact h.elim
theorem ps_putN {X : Cx} {i : Nat} {n : Str} {e ix : Expr} {np tpos pos : Pos} {a dx : DE} (hN : X.N[i]? = some n) (hv : Vis X.env.scope n) (hd : (n == ("__debug__" : Str)) = false) (hcd : (n == ("__classdict__" : Str)) = false) (h : PE X e (tE B a)) (hix : PE X ix (tP B dx))
    (hg : ∀ {to ti : TE}, PE X (.Name n np) to → PE X ix ti → PG X (.Subscript (.Name n np) ix tpos) (gSub to ti rSetL)) (hs : swapsWithSole [.Subscript (.Name n np) ix tpos] e pos.line X.env = pure false) (hw : swappedStores [.Subscript (.Name n np) ix tpos] e X.env = pure none)
    (h1 : (assignEach [.Subscript (.Name n np) ix tpos] X.env).map (·.2) = [assign (.Subscript (.Name n np) ix tpos) X.env]) : PS X (.Assign [.Subscript (.Name n np) ix tpos] e pos) (tS B (putS i dx a)) :=
  PS.mono (ps_asg h (hg (pe_var hN hv hd hcd) hix) hs hw h1) fun E σ H ⟨W, env, r, k, S, hx, h, ok⟩ => tE.go S hx h fun d r1 W1 v1 H1 h1 s1 S1 p1 => by
    split at h1
    · rename_i ds e
      obtain ⟨b, vs, g1, g2, g3, g4, g5, g6⟩ := S1.lo.at_ i _ e
      refine ⟨_, g1, ?_⟩
      refine tP.go S1 hx h1 ?_
      intro j r2 W2 v2 H2 h2 s2 S2 p2
      split at h2
      · rename_i j
        obtain ⟨m, em, hm⟩ := Th.of h2
        obtain ⟨f1, f2, f3⟩ := s2.own g2 g4 g5
        have pv := g3.mono s2.le
        refine ⟨b, vs, j, m, rfl, p2.int, f1, by rw [pv.length]; exact em, ?_⟩
        exact ok.nx _ _ hm W2 σ _ (S2.change e g1 f1 (pv.set (p1.mono s2.le) m) f2 f3 g6)
      · exact h2.elim
    · exact h1.elim

theorem ps_putR {X : Cx} {o e ix : Expr} {tpos pos : Pos} {a dx od : DE} (h : PE X e (tE B a)) (hob : PE X o (tP B od)) (hix : PE X ix (tP B dx)) (hg : ∀ {to ti : TE}, PE X o to → PE X ix ti → PG X (.Subscript o ix tpos) (gSub to ti rSetL))
    (hs : swapsWithSole [.Subscript o ix tpos] e pos.line X.env = pure false) (hw : swappedStores [.Subscript o ix tpos] e X.env = pure none) (h1 : (assignEach [.Subscript o ix tpos] X.env).map (·.2) = [assign (.Subscript o ix tpos) X.env]) :
    PS X (.Assign [.Subscript o ix tpos] e pos) (tS B (putR od dx a)) :=
  PS.mono (ps_asg h (hg hob hix) hs hw h1) fun E σ H ⟨W, env, r, k, S, hx, h, ok⟩ => tE.go S hx h fun d r1 W1 v1 H1 h1 s1 S1 p1 => tP.go S1 hx h1 fun o' r2 W2 v2 H2 h2 s2 S2 p2 => tP.go S2 hx h2 fun j r3 W3 v3 H3 h3 s3 S3 p3 => by
    split at h3
    · rename_i n j
      split at h3
      · rename_i ds e
        obtain ⟨m, em, hm⟩ := Th.of h3
        obtain ⟨b, vs, rfl, g1, g2, g3⟩ := S3.gd.shared (p2.ref.mono s3.le) e
        refine ⟨b, vs, j, m, rfl, p3.int, g2, by rw [g3.length]; exact em, ?_⟩
        have pd := g3.set ((p1.mono s2.le).mono s3.le) m
        exact ok.nx _ _ hm W3 σ _ (S3.step (Step.put g1) (S3.gd.put g1 pd))
      · exact h3.elim
    · exact h3.elim
/-! ### several at once -/
inductive MxA (G : Sg) (W : Wd) (Hs H : Hp) : List V → List Sl → Prop
  | nil : MxA G W Hs H [] []
  | val {v : V} {vs : List V} {d : D} {ss : List Sl} : Dp G W v d → MxA G W Hs H vs ss → MxA G W Hs H (v :: vs) (.val d :: ss)
  | own {a : Addr} {ws vs : List V} {ds : List D} {ss : List Sl} : H a = some (.lst ws) → DpA G W ws ds → W.F a = none → a ∉ W.rho → Hs a = none → (∀ (j : Nat) (es : List D), ss[j]? = some (.own es) → vs[j]? ≠ some (.ref a)) → MxA G W Hs H vs ss →
      MxA G W Hs H (.ref a :: vs) (.own ds :: ss)
theorem MxA.early {G : Sg} {Hs Hs' : Hp} (h0 : ∀ b, Hs' b = none → Hs b = none) {vs : List V} {ss : List Sl} (h : MxA G W Hs' H vs ss) : MxA G W Hs H vs ss := by
  induction h with
  | nil => exact .nil
  | val p _ ih => exact .val p ih
  | own h1 h2 h3 h4 h5 h6 _ ih => exact .own h1 h2 h3 h4 (h0 _ h5) h6 ih
theorem MxA.ne {G : Sg} {Hs : Hp} {vs : List V} {ss : List Sl} (h : MxA G W Hs H vs ss) {a : Addr} (ha : Hs a ≠ none) : ∀ (j : Nat) (es : List D), ss[j]? = some (.own es) → vs[j]? ≠ some (.ref a) := by
  induction h with
  | nil => intro j es e; simp at e
  | val p _ ih =>
    intro j es e
    cases j with
    | zero => simp at e
    | succ j => simpa using ih j es (by simpa using e)
  | own h1 h2 h3 h4 h5 h6 _ ih =>
    intro j es e
    cases j with
    | zero => intro q; simp at q; subst q; exact ha h5
    | succ j => simpa using ih j es (by simpa using e)
theorem MxA.step {G : Sg} {Hs : Hp} (s : Nv.Step W W' H H') {vs : List V} {ss : List Sl} (h : MxA G W Hs H vs ss) : MxA G W' Hs H' vs ss := by
  induction h with
  | nil => exact .nil
  | val q _ ih => exact .val (q.mono s.le) ih
  | own q1 q2 q3 q4 q5 q6 _ ih =>
    obtain ⟨z1, z2, z3⟩ := s.own q1 q3 q4
    exact .own z1 (q2.mono s.le) z2 z3 q5 q6 ih
theorem MxA.length {G : Sg} {Hs : Hp} {vs : List V} {ss : List Sl} (h : MxA G W Hs H vs ss) : vs.length = ss.length := by
  induction h with
  | nil => rfl
  | val _ _ ih => simp [ih]
  | own _ _ _ _ _ _ _ ih => simp [ih]
def tMx (B : Bs) (ms : List (Bool × DE)) : TA := fun σ H Q => ∃ W env r x q, Stt B W env r σ H ∧ Xl B x ∧ mixW ms env r x q ∧
  ∀ ss r', q ss r' → ss.length = ms.length → ∀ W' vs H', Nv.Step W W' H H' → Gd B.G W' r' H' → MxA B.G W' H H' vs ss → Q vs H'
theorem pa_nilM {X : Cx} : PA X [] (tMx B []) := PA.mono pa_nil fun σ H Q ⟨W, env, r, x, q, S, hx, h, k⟩ => k _ r h rfl W _ H (.refl W H) S.gd .nil
theorem pa_valM {X : Cx} {e : Expr} {es : List Expr} {a : DE} {ms : List (Bool × DE)} (ha : PE X e (tE B a)) (hr : PA X es (tMx B ms)) (hs : starEach (e :: es) X.env = (false, eval e X.env) :: starEach es X.env) : PA X (e :: es) (tMx B ((false, a) :: ms)) :=
  PA.mono (pa_cons ha hr hs) fun σ H Q ⟨W, env, r, x, q, S, hx, h, k⟩ => tE.go S hx h fun d r1 W1 v1 H1 h1 s1 S1 p1 =>
    ⟨W1, env, r1, x, _, S1, hx, h1, fun ss r2 hq hl W2 vs H2 s2 g2 m2 => k _ r2 hq (by rw [List.length_cons, List.length_cons, hl]) W2 _ H2 (s1.trans s2) g2 (.val (p1.mono s2.le) (m2.early fun b z => Classical.byContradiction fun y => s1.dom b y z))⟩
theorem pa_ownM {X : Cx} {e : Expr} {es : List Expr} {a : DE} {ms : List (Bool × DE)} (ha : PE X e (tFr B a)) (hr : PA X es (tMx B ms)) (hs : starEach (e :: es) X.env = (false, eval e X.env) :: starEach es X.env) : PA X (e :: es) (tMx B ((true, a) :: ms)) :=
  PA.mono (pa_cons ha hr hs) fun σ H Q ⟨W, env, r, x, q, S, hx, h, k⟩ => tFr.go S hx h fun ds r1 W1 H1 b vs h1 s1 S1 g1 g2 g3 g4 g5 =>
    ⟨W1, env, r1, x, _, S1, hx, h1, fun ss r2 hq hl W2 us H2 s2 gg m2 => by
      obtain ⟨f1, f2, f3⟩ := s2.own g1 g3 g4
      exact k _ r2 hq (by rw [List.length_cons, List.length_cons, hl]) W2 _ H2 (s1.trans s2) gg (.own f1 (g2.mono s2.le) f2 f3 g5 (m2.ne (by rw [g1]; exact nofun)) (m2.early fun b z => Classical.byContradiction fun y => s1.dom b y z))⟩
def setAllV (σ : L2.St) : List Nat → List V → L2.St
  | i :: is, v :: vs => setAllV (σ.set i (some v)) is vs
  | _, _ => σ
theorem Stt.setAll {Hs : Hp} : ∀ {is : List Nat} {vs : List V} {ss : List Sl} {env : En} {σ : L2.St}, is.Nodup → Stt B W env r σ H → MxA B.G W Hs H vs ss → (∀ b, Hs b = none → B.H0 b = none) →
    (∀ (j : Nat) (es : List D), env[j]? = some (.own es) → ∀ (m : Nat) (zs : List D) (b : Addr), ss[m]? = some (.own zs) → vs[m]? = some (.ref b) → σ[j]? ≠ some (some (.ref b))) → Stt B W (setAll env is ss) r (setAllV σ is vs) H
  | [], vs, ss, env, σ, _, S, m, _, _ => by
    cases m <;> exact S
  | i :: is, _, _, env, σ, nd, S, .nil, _, _ => S
  | i :: is, _, _, env, σ, nd, S, .val (v := v) (vs := vs) (d := d) (ss := ss) p m, h0, hd => by
    refine Stt.setAll (is := is) (vs := vs) (ss := ss) (List.nodup_cons.mp nd).2 (S.setVal i p) m h0 fun j es e n zs b e1 e2 => ?_
    rw [List.getElem?_set] at e
    by_cases hij : i = j
    · rw [if_pos hij] at e
      split at e <;> cases e
    · rw [if_neg hij] at e
      rw [List.getElem?_set_ne hij]
      exact hd j es e (n + 1) zs b (by simpa using e1) (by simpa using e2)
  | i :: is, _, _, env, σ, nd, S, .own (a := a) (ws := ws) (vs := vs) (ds := ds) (ss := ss) h1 h2 h3 h4 h5 h6 m, h0, hd => by
    refine Stt.setAll (is := is) (vs := vs) (ss := ss) (List.nodup_cons.mp nd).2 (own_fresh S (fun j es e => hd j es e 0 ds a rfl rfl) h1 h2 h3 h4 (h0 a h5)) m h0 fun j es e n zs b e1 e2 => ?_
    rw [List.getElem?_set] at e
    by_cases hij : i = j
    · subst hij
      rw [if_pos rfl] at e
      split at e
      · rename_i hlt
        rw [List.getElem?_set_self (by rw [← S.lo.len]; exact hlt)]
        intro q
        cases q
        exact h6 n zs e1 e2
      · cases e
    · rw [if_neg hij] at e
      rw [List.getElem?_set_ne hij]
      exact hd j es e (n + 1) zs b (by simpa using e1) (by simpa using e2)
theorem mpar_core {is : List Nat} {k : Kt} {E : Ends} {vs : List V} {ss : List Sl} (nd : is.Nodup) (ok : KtOk B k E) (S : Stt B W env r σ H) (S' : Stt B W' env r' σ H') (m : MxA B.G W' H H' vs ss) (hq : k.nx (setAll env is ss) r') : E.nx (setAllV σ is vs) H' := by
  refine ok.nx _ _ hq W' _ H' ?_
  refine Stt.setAll nd S' m (fun b z => (fresh_no S z).1) fun j es e n zs b e1 e2 => ?_
  -- an own list of before is not a new one
  have hb : ∀ {vs : List V} {ss : List Sl}, MxA B.G W' H H' vs ss → ∀ (n : Nat) (zs : List D), ss[n]? = some (Sl.own zs) → vs[n]? = some (.ref b) → H b = none := fun {vs ss} m => by
    induction m with
    | nil => intro n zs e; simp at e
    | val _ _ ih =>
      intro n zs e e'
      cases n with
      | zero => simp at e
      | succ n => exact ih n zs (by simpa using e) (by simpa using e')
    | own h1 h2 h3 h4 h5 h6 _ ih =>
      intro n zs e e'
      cases n with
      | zero => simp at e'; subst e'; exact h5
      | succ n => exact ih n zs (by simpa using e) (by simpa using e')
  exact (fresh_no S (hb m n zs e1 e2)).2 j es e
theorem mpar_aux {is : List Nat} {ms : List (Bool × DE)} {E : Ends} {T : List V → Hp → Prop} (nd : is.Nodup) (h : tS B (mparS is ms) E σ H) (k : ∀ vs H', vs.length = ms.length → E.nx (setAllV σ is vs) H' → T vs H') : tMx B ms σ H T := by
  obtain ⟨W, env, r, kk, S, hx, h, ok⟩ := h
  exact ⟨W, env, r, kk.x, _, S, hx, h, fun ss r' hq hl W' vs H' s g m => k vs H' (by rw [m.length, hl]) (mpar_core nd ok S (S.step s g) m hq)⟩
theorem ps_par2N {X : Cx} {i j : Nat} {y z : Str} {a b : Expr} {px py pt pos : Pos} {kt k2 pt2} {ms : List (Bool × DE)} (hc : X.calm = true) (hN : X.N.Nodup) (hi : X.N[i]? = some y) (hj : X.N[j]? = some z) (hij : i ≠ j)
    (hy : X.env.scope.names.lookup y = some .local) (hz : X.env.scope.names.lookup z = some .local) (ha : PA X [a, b] (tMx B ms)) (hm : ms.length = 2)
    (hw : swappedStores [.Tuple [.Name y px, .Name z py] kt pt] (.Tuple [a, b] k2 pt2) X.env = pure (some [y, z])) (hs : swapsWithSole [.Tuple [.Name y px, .Name z py] kt pt] (.Tuple [a, b] k2 pt2) pos.line X.env = pure false) :
    PS X (.Assign [.Tuple [.Name y px, .Name z py] kt pt] (.Tuple [a, b] k2 pt2) pos) (tS B (mparS [i, j] ms)) :=
  PS.mono (ps_par hc hN hi hj hij hy hz ha hw hs) fun E σ H h => mpar_aux (by simp [hij]) h fun vs H' hl q => by
    rw [hm] at hl
    match vs, hl with
    | [v, w], _ => exact ⟨v, w, rfl, q⟩
theorem ps_par3N {X : Cx} {i j l : Nat} {y z u : Str} {a b c : Expr} {px py pz pt pos : Pos} {kt k2 pt2} {ms : List (Bool × DE)} (hc : X.calm = true) (hN : X.N.Nodup) (hi : X.N[i]? = some y) (hj : X.N[j]? = some z) (hl : X.N[l]? = some u) (hij : i ≠ j) (hil : i ≠ l) (hjl : j ≠ l)
    (hy : X.env.scope.names.lookup y = some .local) (hz : X.env.scope.names.lookup z = some .local) (hu : X.env.scope.names.lookup u = some .local) (ha : PA X [a, b, c] (tMx B ms)) (hm : ms.length = 3)
    (hw : swappedStores [.Tuple [.Name y px, .Name z py, .Name u pz] kt pt] (.Tuple [a, b, c] k2 pt2) X.env = pure (some [y, z, u])) (hs : swapsWithSole [.Tuple [.Name y px, .Name z py, .Name u pz] kt pt] (.Tuple [a, b, c] k2 pt2) pos.line X.env = pure false) :
    PS X (.Assign [.Tuple [.Name y px, .Name z py, .Name u pz] kt pt] (.Tuple [a, b, c] k2 pt2) pos) (tS B (mparS [i, j, l] ms)) :=
  PS.mono (ps_par3 hc hN hi hj hl hij hil hjl hy hz hu ha hw hs) fun E σ H h => mpar_aux (by simp [hij, hil, hjl]) h fun vs H' hl q => by
    rw [hm] at hl
    match vs, hl with
    | [v, w, w'], _ => exact ⟨v, w, w', rfl, q⟩
end

/-! ### a tuple made and taken apart at once -/
section
variable {B : Bs}
def gAll (is : List Nat) : TGs := fun vs σ H Q => vs.length = is.length ∧ Q (setAllV σ is vs) H
theorem pgs_all {X : Cx} (hN : X.N.Nodup) : ∀ {es : List Expr} {is : List Nat}, (∀ (j : Nat) (e : Expr), es[j]? = some e → ∃ (n : Str) (p : Pos) (i : Nat), e = .Name n p ∧ is[j]? = some i ∧ X.N[i]? = some n ∧ Loc X.env.scope n ∧ (X.fn n = true ∨ X.env.scope.names.lookup n = some .local)) → es.length = is.length → PGs X es (gAll is)
  | [], [], _, _ => PGs.mono pgs_nil fun vs σ H Q h => ⟨List.eq_nil_of_length_eq_zero h.1, by
      have := List.eq_nil_of_length_eq_zero h.1
      subst this
      exact h.2⟩
  | e :: es, i :: is, hh, hl => by
    obtain ⟨n, p, i', rfl, e1, h1, h2, h3⟩ := hh 0 _ rfl
    simp at e1
    subst e1
    have ih := pgs_all (X := X) hN (es := es) (is := is) (fun j e q => hh (j + 1) e (by simpa using q)) (by simpa using hl)
    refine PGs.mono (pgs_cons (pg_name hN h1 h2 h3) ih) fun vs σ H Q h => ?_
    cases vs with
    | nil => exact absurd h.1 (by simp)
    | cons v vs => exact ⟨v, vs, rfl, by simpa using h.1, h.2⟩
theorem ps_parLN {X : Cx} {es ts : List Expr} {is : List Nat} {n m : Nat} {pt pe pos : Pos} {ms : List (Bool × DE)} (hc : X.calm = true) (hN : X.N.Nodup) (nd : is.Nodup)
    (hh : ∀ (j : Nat) (e : Expr), ts[j]? = some e → ∃ (n : Str) (p : Pos) (i : Nat), e = .Name n p ∧ is[j]? = some i ∧ X.N[i]? = some n ∧ Loc X.env.scope n ∧ (X.fn n = true ∨ X.env.scope.names.lookup n = some .local)) (hl : ts.length = is.length)
    (ha : PA X es (tMx B ms)) (hm : ms.length = is.length) (hs' : ms.length ≤ sizeLine) (hn : (assignEach ts X.env).length = is.length) (hst : (assignEach ts X.env).findIdx? (·.1) = none) (hs : swapsWithSole [.Tuple ts n pt] (.Tuple es m pe) pos.line X.env = pure false)
    (hw : swappedStores [.Tuple ts n pt] (.Tuple es m pe) X.env = pure none) (h1 : (assignEach [.Tuple ts n pt] X.env).map (·.2) = [assign (.Tuple ts n pt) X.env]) : PS X (.Assign [.Tuple ts n pt] (.Tuple es m pe) pos) (tS B (mparS is ms)) :=
  PS.mono (ps_asg (pe_tup ha) (pg_tup hc (pgs_all hN hh hl) hn hst) hs hw h1) fun E σ H h => by
    obtain ⟨W, env, r, kk, S, hx, h, ok⟩ := h
    refine ⟨W, env, r, kk.x, _, S, hx, h, fun ss r' hq hl W' vs H' s g mx => ⟨by rw [mx.length, hl]; exact hs', fun p hp => ⟨p, vs, rfl, .of upd_same, by rw [mx.length, hl, hm], by rw [mx.length, hl, hm], ?_⟩⟩⟩
    have gs := g.newF (o := .tup vs) hp
    have mx' := mx.step gs.2
    exact mpar_core nd ok S (S.step (s.trans gs.2) gs.1) mx' hq
end
end Nv

/-! N8: from syntax to what it says. -/
namespace Nv
open PySem PySem.Spec PyProof.Rows L2

/-- what is known of a def's text -/
structure Tx where
  /-- names by slot; the slots of lists of the frame's own; lines whose lists are shared; slots kept from a line on -/
  N : List Str
  ow : List Nat
  sh : List Nat
  fz : List (Nat × List Nat)
  /-- defs: the parameters, the promise; keyword calls that occur: the def, how many positional ones, the keywords; constants; built-ins that are still so -/
  fns : List (Str × List Str × Sem)
  kws : List (Str × Nat × List Str)
  cs : List (Str × D)
  bl : List Str

def slotOf : List Str → Str → Option Nat
  | [], _ => none
  | m :: ms, n => if m = n then some 0 else (slotOf ms n).map (· + 1)
theorem slotOf_get : ∀ {N : List Str} {n : Str} {i : Nat}, slotOf N n = some i → N[i]? = some n
  | [], _, _, h => by cases h
  | m :: ms, n, i, h => by
    unfold slotOf at h
    split at h
    · rename_i e
      cases h
      simp [e]
    · obtain ⟨j, h1, rfl⟩ := Option.map_eq_some_iff.mp h
      simpa using slotOf_get h1
def visB (sc : Scope) (n : Str) : Bool := match sc.names.lookup n with
  | some .local => true
  | some .cell => true
  | some .free => true
  | _ => false
theorem visB_vis {sc : Scope} {n : Str} (h : visB sc n = true) : Vis sc n := by
  unfold visB at h
  split at h
  · exact .inl (by assumption)
  · exact .inr (.inl (by assumption))
  · exact .inr (.inr (by assumption))
  · cases h
def locB (sc : Scope) (n : Str) : Bool := match sc.names.lookup n with
  | some .local => true
  | some .cell => true
  | _ => false
theorem locB_loc {sc : Scope} {n : Str} (h : locB sc n = true) : Loc sc n := by
  unfold locB at h
  split at h
  · exact .inl (by assumption)
  · exact .inr (by assumption)
  · cases h
/-- may be stored -/
def stoB (sc : Scope) (fb : Str → Bool) (n : Str) : Bool := locB sc n && (fb n || decide (sc.names.lookup n = some .local))
def glB (sc : Scope) (n : Str) : Bool := decide (sc.names.lookup n = some .globalImplicit)
def okN (n : Str) : Bool := !(n == ("__debug__" : Str)) && !(n == ("__classdict__" : Str))
/-- a name that is read: its slot -/
def rdSlot (T : Tx) (sc : Scope) (n : Str) : Option Nat := if visB sc n && okN n then slotOf T.N n else none
def isOwn (T : Tx) (sc : Scope) (e : Expr) : Option Nat := match e with
  | .Name n _ => match rdSlot T sc n with
    | some i => if T.ow.contains i then some i else none
    | none => none
  | _ => none
def opF : Operator → Option (D → D → Option D)
  | .Add => some addD
  | .Sub => some subD
  | .Mult => some mulD
  | .FloorDiv => some fdivD
  | .Mod => some modD
  | .Pow => some powD
  | _ => none
def cmF : CmpOp → Option (D → D → Option Bool)
  | .Eq => some eqB
  | .NotEq => some neB
  | .Lt => some ltB
  | .LtE => some leB
  | .Gt => some gtB
  | .GtE => some geB
  | .Is => some isB
  | .IsNot => some isntB
  | .In => some inB
  | .NotIn => some ninB
/-- whose methods are asked plainly -/
def plainO : Expr → Bool
  | .Name .. => true
  | .Subscript .. => true
  | _ => false
def isSet : Expr → Bool
  | .Set .. => true
  | _ => false
def fold1 (op : BoolOp) (t u : DT) : DT := match op with
  | .And => andT t u
  | .Or => orT t u
def fold1D (op : BoolOp) (t u : DE) : DE := match op with
  | .And => andD t u
  | .Or => orD t u
/-- built-ins with one argument, with two -/
def blt1 (n : Str) : Option (List D → Option D) :=
  if n = "len" then some lenF else if n = "abs" then some absF else if n = "int" then some intF else if n = "tuple" then some tupF else if n = "repr" then some reprF else none
def blt2 (n : Str) : Option (List D → Option D) := if n = "max" then some max2F else if n = "min" then some min2F else none
def glo (T : Tx) (sc : Scope) (n : Str) : Bool := glB sc n && okN n
def blOk (T : Tx) (sc : Scope) (n : Str) : Bool := glo T sc n && T.bl.contains n && !(n == ("__name__" : Str))
/-- a target: what it does, its slots, how many names at its top -/
def trG (T : Tx) (sc : Scope) (fb : Str → Bool) : Expr → Option (DG × List Nat)
  | .Name n _ => if stoB sc fb n then (slotOf T.N n).map fun i => (nmG i, [i]) else none
  | .Tuple es _ _ => (trGs T sc fb es).map fun (g, js) => (tupG g, js)
  | _ => none
where
  trGs (T : Tx) (sc : Scope) (fb : Str → Bool) : List Expr → Option ((List D → En → (En → Prop) → Prop) × List Nat)
    | [] => some (nilG, [])
    | e :: es => match trG T sc fb e, trGs T sc fb es with
      | some (g, js), some (gs, js') => some (consG g gs, js ++ js')
      | _, _ => none
def tgNames : Expr → List Str
  | .Name n _ => [n]
  | .Tuple es _ _ => go es
  | _ => []
where
  go : List Expr → List Str
    | [] => []
    | e :: es => tgNames e ++ go es
def ownOf (N : List Str) : List Str → Option (List (Str × Nat))
  | [] => some []
  | n :: ns => match slotOf N n, ownOf N ns with
    | some i, some l => some ((n, i) :: l)
    | _, _ => none

def kwNames : List Keyword → Option (List Str)
  | [] => some []
  | ⟨some n, _, _⟩ :: ks => (kwNames ks).map (n :: ·)
  | ⟨none, _, _⟩ :: _ => none
mutual
def trE (T : Tx) : Nat → Scope → Expr → Option DE
  | 0, _, _ => none
  | f + 1, sc, e => match e with
    | .Name n _ => match rdSlot T sc n with
      | some i => some (varD i)
      | none => if glo T sc n then (T.cs.lookup n).map cD else none
    | .Constant (.int i) _ _ => some (cD (.int i))
    | .Constant (.str s) _ _ => some (cD (.str s))
    | .Constant (.bool b) _ _ => some (cD (.bl b))
    | .Constant .none _ _ => some (cD .non)
    | .BinOp a op b _ => match opF op, trP T f sc a, trP T f sc b with
      | some o, some x, some y => some (opD o x y)
      | _, _, _ => none
    | .UnaryOp .USub a _ => (trP T f sc a).map (unD negD)
    | .UnaryOp .Not a _ => (trP T f sc a).map notD
    | .BoolOp op es _ => trBs T f sc op es
    | .Compare a [op] [b] _ => match cmF op, trP T f sc a, trP T f sc b with
      | some o, some x, some y => if isSet b then none else some (opD (cmpV o) x y)
      | _, _, _ => none
    | .Compare a [op, op'] [b, c] _ => match cmF op, cmF op', trP T f sc a, trP T f sc b, trP T f sc c with
      | some o, some o', some x, some y, some z => if isSet c then none else some (chainD o o' x y z)
      | _, _, _, _, _ => none
    | .IfExp t a b _ => match trT T f sc t, trE T f sc a, trE T f sc b with
      | some t, some x, some y => some (ifD t x y)
      | _, _, _ => none
    | .Tuple es _ _ => (trA T f sc es).map fun (as, _) => tupD as
    | .Subscript a (.Slice lo hi none _) _ => match trP T f sc a, trO T f sc lo, trO T f sc hi with
      | some x, some l, some h => some (slcD x l h)
      | _, _, _ => none
    | .Subscript a (.Slice none none (some (.UnaryOp .USub (.Constant (.int 1) _ _) _)) _) p => match (match a with
        | .ListComp .. => trF T f sc a
        | _ => trP T f sc a) with
      | some x => if T.sh.contains p.line then some (shD (revD x)) else some (revD x)
      | none => none
    | .Subscript a (.Slice _ _ (some _) _) _ => none
    | .Subscript a i _ => match trP T f sc a, trP T f sc i with
      | some x, some y => some (opD idxV x y)
      | _, _ => none
    | .Call (.Name n _) es [] _ => if glo T sc n then match T.fns.lookup n with
        | some (ps, S) => match trA T f sc es with
          | some (as, l) => if l = ps.length then some (callD S as) else none
          | none => none
        | none => if blOk T sc n then match es with
            | [a] => match blt1 n, trAP T f sc es with
              | some g, some as => some (bltD g as)
              | _, _ => none
            | [a, b] => match blt2 n, trAP T f sc es with
              | some g, some as => some (bltD g as)
              | _, _ => none
            | _ => none
          else none
      else none
    | .Call (.Name n _) es kws _ => if glo T sc n then match T.fns.lookup n with
        | some (ps, S) => match trA T f sc es, trK T f sc kws, kwNames kws with
          | some (as, l), some (bs, m), some ks => if T.kws.contains (n, l, ks) && decide (m = ks.length) && decide ((kwPut ps ks (List.replicate l ()) (List.replicate m ())).length = ps.length) then some (callKD S (kwPut ps ks) as bs) else none
          | _, _, _ => none
        | none => none
      else none
    | .Call (.Attribute o m ap) [] [] p => if plainO o && decide (m = "pop") && ap.endLine == p.line then (trP T f sc o).map popR else none
    | .Call (.Attribute (.Constant (.str s) k cp) m ap) [a] [] p => if m = "join" && ap.endLine == p.line then (trP T f sc a).map fun x => methD joinF (cD (.str s)) (consA x nilA) else none
    | .Call (.Attribute o m ap) [a] [] p => if plainO o && decide (m = "append") && ap.endLine == p.line then match trP T f sc o, trE T f sc a with
        | some x, some y => some (apR x y)
        | _, _ => none
      else none
    | e => if T.sh.contains e.pos.line then (trF T f sc e).map shD else trF T f sc e
def trF (T : Tx) : Nat → Scope → Expr → Option DE
  | 0, _, _ => none
  | f + 1, sc, e => match e with
    | .List es _ => (trA T f sc es).map fun (as, _) => lstD as
    | .ListComp elt [c] scope _ => if c.is_async = 0 && decide (scope.kind = .function) then
        match ownOf T.N (tgNames c.target), trG T (relS scope sc) (fun n => scope.names.lookup n == some .cell) c.target, trI T f sc c.iter true, trQ T f (relS scope sc) c.ifs, trE T f (relS scope sc) elt with
        | some own, some (g, js), some it, some t, some de => if blkC T.N sc scope own && js.all (fun j => (own.map (·.2)).contains j) then some (compD it g t de (own.map (·.2))) else none
        | _, _, _, _, _ => none
      else none
    | _ => none
def trP (T : Tx) : Nat → Scope → Expr → Option DE
  | 0, _, _ => none
  | f + 1, sc, e => match isOwn T sc e with
    | some i => some (peekD i)
    | none => trE T f sc e
def trT (T : Tx) : Nat → Scope → Expr → Option DT
  | 0, _, _ => none
  | f + 1, sc, e => match e with
    | .UnaryOp .Not a _ => (trT T f sc a).map notT
    | .BoolOp op es _ => trTs T f sc op es
    | .Compare a [op] [b] _ => match cmF op, trP T f sc a, trP T f sc b with
      | some o, some x, some y => if isSet b then none else some (cmpT o x y)
      | _, _, _ => none
    | .Compare a [op, op'] [b, c] _ => match cmF op, cmF op', trP T f sc a, trP T f sc b, trP T f sc c with
      | some o, some o', some x, some y, some z => if isSet c then none else some (chainT o o' x y z)
      | _, _, _, _, _ => none
    | .Name .. => (trP T f sc e).map valT
    | .Call .. => (trP T f sc e).map valT
    | .Subscript .. => (trP T f sc e).map valT
    | .Constant .. => (trP T f sc e).map valT
    | _ => none
def trTs (T : Tx) : Nat → Scope → BoolOp → List Expr → Option DT
  | 0, _, _, _ => none
  | f + 1, sc, op, es => match es with
    | [] => none
    | [a] => trT T f sc a
    | a :: b :: es => match trT T f sc a, trTs T f sc op (b :: es) with
      | some t, some u => some (fold1 op t u)
      | _, _ => none
def trBs (T : Tx) : Nat → Scope → BoolOp → List Expr → Option DE
  | 0, _, _, _ => none
  | f + 1, sc, op, es => match es with
    | [] => none
    | [a] => trE T f sc a
    | a :: b :: es => match trP T f sc a, trBs T f sc op (b :: es) with
      | some t, some u => some (fold1D op t u)
      | _, _ => none
def trA (T : Tx) : Nat → Scope → List Expr → Option (DA × Nat)
  | 0, _, _ => none
  | f + 1, sc, es => match es with
    | [] => some (nilA, 0)
    | e :: es => match trE T f sc e, trA T f sc es with
      | some a, some (as, l) => some (consA a as, l + 1)
      | _, _ => none
def trAP (T : Tx) : Nat → Scope → List Expr → Option DA
  | 0, _, _ => none
  | f + 1, sc, es => match es with
    | [] => some nilA
    | e :: es => match trP T f sc e, trAP T f sc es with
      | some a, some as => some (consA a as)
      | _, _ => none
def trK (T : Tx) : Nat → Scope → List Keyword → Option (DA × Nat)
  | 0, _, _ => none
  | f + 1, sc, es => match es with
    | [] => some (nilA, 0)
    | ⟨_, e, _⟩ :: es => match trE T f sc e, trK T f sc es with
      | some a, some (as, l) => some (consA a as, l + 1)
      | _, _ => none
def trO (T : Tx) : Nat → Scope → Option Expr → Option DO
  | 0, _, _ => none
  | f + 1, sc, e => match e with
    | none => some noO
    | some e => (trP T f sc e).map someO
def trI (T : Tx) : Nat → Scope → Expr → Bool → Option DI
  | 0, _, _, _ => none
  | f + 1, sc, e, kp => match e with
    | .Call (.Name n _) [a] [] _ => if n = "range" then (if blOk T sc n then (trP T f sc a).map rng1I else none) else (if kp then trP T f sc e else trE T f sc e).map seqI
    | .Call (.Name n _) [a, b] [] _ => if n = "range" then (if blOk T sc n then match trP T f sc a, trP T f sc b with
        | some x, some y => some (rng2I x y)
        | _, _ => none
      else none) else (if kp then trP T f sc e else trE T f sc e).map seqI
    | e => if isSet e then none else (if kp then trP T f sc e else trE T f sc e).map seqI
def trQ (T : Tx) : Nat → Scope → List Expr → Option DT
  | 0, _, _ => none
  | f + 1, sc, es => match es with
    | [] => some yesT
    | [c] => trT T f sc c
    | _ => none
end
end Nv

/-! N9: what syntax says is what it does: expressions. -/
namespace Nv
open PySem PySem.Spec PyProof.Rows L2

/-- the top behind a text: its defs keep their promises, its constants and built-ins stand -/
structure Lk (P : Program) (w : World) (K : PySem.W.Frag) (mg : Str → Option Value) (base : Heap) (G : Sg) (T : Tx) (k : Nat) : Prop where
  fns : ∀ n ps S, T.fns.lookup n = some (ps, S) → ∃ f fd, mg n = some (.ref f) ∧ PySem.W.keepIn K (.ref f) = true ∧ Binds K fd ps [] ∧ FnG P w K mg base k f fd ps (spS G ps.length S) ∧ ∀ j ks, T.kws.contains (n, j, ks) = true → KwOk K fd ps j ks
  cs : ∀ n d, T.cs.lookup n = some d → ∃ u v, mg n = some u ∧ RelV v u ∧ ∀ W, Dp G W v d
  bl : ∀ n, T.bl.contains n = true → mg n = none
structure Cok (X : Cx) (B : Bs) (T : Tx) (sc : Scope) (fb : Str → Bool) (k : Nat) : Prop where
  lk : Lk X.prog X.w X.K X.mg X.base B.G T k
  K : X.K = B.G.K
  N : X.N = T.N
  nd : X.N.Nodup
  esc : X.env.scope = sc
  kind : sc.kind = .function
  calm : X.calm = true
  room : Room k X.A
  gd : X.A.guards = some []
  tk : Takes X B.wx
  po : PassesOwn (model X.prog X.w) X.A X.env X.xe
  fn : ∀ n, fb n = true → X.fn n = true

section
variable {X : Cx} {B : Bs} {T : Tx} {sc : Scope} {fb : Str → Bool} {k : Nat}
theorem Cok.slot (c : Cok X B T sc fb k) {n : Str} {i : Nat} (h : rdSlot T sc n = some i) : X.N[i]? = some n ∧ Vis X.env.scope n ∧ (n == ("__debug__" : Str)) = false ∧ (n == ("__classdict__" : Str)) = false := by
  unfold rdSlot at h
  split at h
  · rename_i hh
    rw [Bool.and_eq_true] at hh
    have h2 := hh.2
    unfold okN at h2
    simp only [Bool.and_eq_true, Bool.not_eq_true'] at h2
    exact ⟨by rw [c.N]; exact slotOf_get h, by rw [c.esc]; exact visB_vis hh.1, h2.1, h2.2⟩
  · cases h
theorem Cok.glo (c : Cok X B T sc fb k) {n : Str} (h : Nv.glo T sc n = true) : Gl X n ∧ (n == ("__debug__" : Str)) = false := by
  unfold Nv.glo at h
  rw [Bool.and_eq_true] at h
  have h2 := h.2
  unfold okN at h2
  simp only [Bool.and_eq_true, Bool.not_eq_true'] at h2
  have h1 := h.1
  unfold glB at h1
  rw [decide_eq_true_eq, ← c.esc] at h1
  exact ⟨h1, h2.1⟩
theorem Cok.blt (c : Cok X B T sc fb k) {n : Str} (h : blOk T sc n = true) : Gl X n ∧ (n == ("__debug__" : Str)) = false ∧ X.mg n = none ∧ n ≠ "__name__" := by
  unfold blOk at h
  simp only [Bool.and_eq_true, Bool.not_eq_true'] at h
  obtain ⟨h1, h2⟩ := c.glo h.1.1
  exact ⟨h1, h2, c.lk.bl n h.1.2, by simpa using h.2⟩
theorem Cok.nox {C : Cx} (h : Cok X B T sc fb k) : True := trivial
theorem Cok.blk (c : Cok X B T sc fb k) {s : Shared} {H : Hp} {scope : Scope} {C : Addr} {cl : List (Str × Addr)} {fp : List Addr} (hk : scope.kind = .function) :
    Cok (X.blk s H scope (compEnvC scope cl C X.env) fp) B.nox T (relS scope sc) (fun n => scope.names.lookup n == some .cell) k :=
  ⟨c.lk, c.K, c.N, c.nd, by show (compEnvC scope cl C X.env).scope = _; rw [← c.esc]; rfl, hk, c.calm, c.room, c.gd, takes0, PassesOwn.never, fun n h => h⟩
theorem Cok.at (c : Cok X B T sc fb k) (W1 : Wd) : Cok X (B.at W1) T sc fb k := ⟨c.lk, c.K, c.N, c.nd, c.esc, c.kind, c.calm, c.room, c.gd, c.tk, c.po, c.fn⟩
theorem Cok.u64 (c : Cok X B T sc fb k) : X.A.units + 64 < cLine := c.room.units
theorem Cok.u65 (c : Cok X B T sc fb k) : X.A.units + 65 < cLine := by have := c.room.un; omega

/-- what was read is no star, no set, no comprehension of another kind -/
def plainE : Expr → Bool
  | .Starred .. => false
  | .Set .. => false
  | .SetComp .. => false
  | .DictComp .. => false
  | .Slice .. => false
  | _ => true
theorem star_plain {e : Expr} {es : List Expr} {env : Env} (h : plainE e = true) : starEach (e :: es) env = (false, eval e env) :: starEach es env := by
  cases e <;> first | rfl | cases h
theorem plain_trF {f : Nat} {e : Expr} {d : DE} (h : trF T f sc e = some d) : plainE e = true := by
  cases f with
  | zero => simp [trF] at h
  | succ f => cases e <;> first | rfl | (simp [trF] at h)
theorem plain_trE {f : Nat} {e : Expr} {d : DE} (h : trE T f sc e = some d) : plainE e = true := by
  cases f with
  | zero => simp [trE] at h
  | succ f => cases e <;> first | rfl | (simp only [trE] at h; split at h; (obtain ⟨_, h1, _⟩ := Option.map_eq_some_iff.mp h; exact plain_trF h1); exact plain_trF h)
theorem plain_trP {f : Nat} {e : Expr} {d : DE} (h : trP T f sc e = some d) : plainE e = true := by
  cases f with
  | zero => simp [trP] at h
  | succ f =>
    unfold trP at h
    split at h
    · rename_i i hi
      unfold isOwn at hi
      split at hi
      · rfl
      · cases hi
    · exact plain_trE h
theorem isSet_plain {e : Expr} (h : plainE e = true) : isSet e = false := by cases e <;> first | rfl | cases h
theorem mark_plain {op : CmpOp} {e : Expr} (h : plainE e = true) : behindInMarks op e = false := by cases e <;> first | rfl | cases h
theorem fold_plain {e : Expr} {env : Env} (h : plainE e = true) : ∀ x, foldedSetIterable e env x = pure x := by
  intro x
  cases e <;> first | rfl | cases h
theorem back_star {pos : Pos} {env : Env} : ∀ {es : List Expr}, (∀ e ∈ es, plainE e = true) → (backTo pos (starEach es env)).any (·.1) = false
  | [], _ => rfl
  | e :: es, h => by
    rw [star_plain (h e (List.mem_cons_self ..))]
    show (false || (backTo pos (starEach es env)).any (·.1)) = false
    rw [back_star fun e' he => h e' (List.mem_cons_of_mem _ he)]
    rfl
theorem plain_trA : ∀ {f : Nat} {es : List Expr} {a : DA × Nat}, trA T f sc es = some a → ∀ e ∈ es, plainE e = true
  | 0, _, _, h => by simp [trA] at h
  | f + 1, [], _, h => fun e he => absurd he (by simp)
  | f + 1, e :: es, _, h => fun e' he => by
    simp only [trA] at h
    split at h
    · rename_i a as l h1 h2
      rcases List.mem_cons.mp he with rfl | he
      · exact plain_trE h1
      · exact plain_trA h2 e' he
    · cases h
theorem plain_trAP : ∀ {f : Nat} {es : List Expr} {a : DA}, trAP T f sc es = some a → ∀ e ∈ es, plainE e = true
  | 0, _, _, h => by simp [trAP] at h
  | f + 1, [], _, h => fun e he => absurd he (by simp)
  | f + 1, e :: es, _, h => fun e' he => by
    simp only [trAP] at h
    split at h
    · rename_i a as h1 h2
      rcases List.mem_cons.mp he with rfl | he
      · exact plain_trP h1
      · exact plain_trAP h2 e' he
    · cases h
theorem base_plain {o : Expr} {nm : Str} {env : Env} (h : plainO o = true) : attributeBase o nm env (eval o env) = eval o env := by cases o <;> first | rfl | cases h
theorem plainIx {e : Expr} (h : plainE e = true) : PlainIx e := by
  intro o i
  cases e <;> first | rfl | cases h
/-- a comparison's operator, by its rule -/
theorem cm_ok (c : Cok X B T sc fb k) {op : CmpOp} {f : D → D → Option Bool} (h : cmF op = some f) : ∃ R, OpR X (compareOp op) R ∧ Says B.G f R := by
  cases op with
  | Eq => cases h; exact ⟨_, op_eq.or (op_eqD c.u64), by rw [c.K]; exact saysEq⟩
  | NotEq => cases h; exact ⟨_, op_ne.or (op_neD c.u64), by rw [c.K]; exact saysNe⟩
  | Lt => cases h; exact ⟨_, op_lt.or op_lt_str, saysLt⟩
  | LtE => cases h; exact ⟨_, op_le.or op_le_str, saysLe⟩
  | Gt => cases h; exact ⟨_, op_gt, saysGt⟩
  | GtE => cases h; exact ⟨_, op_ge, saysGe⟩
  | Is => cases h; exact ⟨_, op_isN, saysIs⟩
  | IsNot => cases h; exact ⟨_, op_notN, saysIsnt⟩
  | In => cases h; exact ⟨_, op_inA c.u65, by rw [c.K]; exact saysIn⟩
  | NotIn => cases h; exact ⟨_, op_ninA c.u65, by rw [c.K]; exact saysNin⟩
theorem op_ok (c : Cok X B T sc fb k) {op : Operator} {f : D → D → Option D} (h : opF op = some f) : ∃ R, OpR X (binaryOp op) R ∧ Does B.G f R := by
  cases op with
  | Add => cases h; exact ⟨_, op_add.or (op_add_str.or (op_catA.or op_cat)), by rw [c.K]; exact doesAdd⟩
  | Sub => cases h; exact ⟨_, op_sub, doesSub⟩
  | Mult => cases h; exact ⟨_, op_mul.or op_mulS, doesMul⟩
  | FloorDiv => cases h; exact ⟨_, op_fdiv, doesFdiv⟩
  | Mod => cases h; exact ⟨_, op_mod, doesMod⟩
  | Pow => cases h; exact ⟨_, op_pow, doesPow⟩
  | _ => cases h
end
end Nv

/-! N10: the induction over expressions. -/
namespace Nv
open PySem PySem.Spec PyProof.Rows L2

structure Snd (T : Tx) (f : Nat) : Prop where
  E : ∀ {X : Cx} {B : Bs} {sc : Scope} {fb : Str → Bool} {k : Nat} {e : Expr} {d : DE}, Cok X B T sc fb k → trE T f sc e = some d → PE X e (tE B d)
  F : ∀ {X : Cx} {B : Bs} {sc : Scope} {fb : Str → Bool} {k : Nat} {e : Expr} {d : DE}, Cok X B T sc fb k → trF T f sc e = some d → PE X e (tFr B d)
  P : ∀ {X : Cx} {B : Bs} {sc : Scope} {fb : Str → Bool} {k : Nat} {e : Expr} {d : DE}, Cok X B T sc fb k → trP T f sc e = some d → PE X e (tP B d)
  Te : ∀ {X : Cx} {B : Bs} {sc : Scope} {fb : Str → Bool} {k : Nat} {e : Expr} {d : DT}, Cok X B T sc fb k → trT T f sc e = some d → PT X e (tT B d)
  Ts : ∀ {X : Cx} {B : Bs} {sc : Scope} {fb : Str → Bool} {k : Nat} {op : BoolOp} {es : List Expr} {d : DT}, Cok X B T sc fb k → trTs T f sc op es = some d → ∀ pos, PW X (.BoolOp op es pos) (tT B d)
  Bv : ∀ {X : Cx} {B : Bs} {sc : Scope} {fb : Str → Bool} {k : Nat} {op : BoolOp} {es : List Expr} {d : DE}, Cok X B T sc fb k → trBs T f sc op es = some d → ∀ pos, PE X (.BoolOp op es pos) (tE B d)
  A : ∀ {X : Cx} {B : Bs} {sc : Scope} {fb : Str → Bool} {k : Nat} {es : List Expr} {d : DA} {n : Nat}, Cok X B T sc fb k → trA T f sc es = some (d, n) → PA X es (tAE B n d)
  AP : ∀ {X : Cx} {B : Bs} {sc : Scope} {fb : Str → Bool} {k : Nat} {es : List Expr} {d : DA}, Cok X B T sc fb k → trAP T f sc es = some d → PA X es (tAP B d)
  K : ∀ {X : Cx} {B : Bs} {sc : Scope} {fb : Str → Bool} {k : Nat} {es : List Keyword} {d : DA} {n : Nat}, Cok X B T sc fb k → trK T f sc es = some (d, n) → PK X es (tAE B n d)
  O : ∀ {X : Cx} {B : Bs} {sc : Scope} {fb : Str → Bool} {k : Nat} {e : Option Expr} {d : DO}, Cok X B T sc fb k → trO T f sc e = some d → PO X e (tOo B d)
  I : ∀ {X : Cx} {B : Bs} {sc : Scope} {fb : Str → Bool} {k : Nat} {e : Expr} {kp : Bool} {d : DI}, Cok X B T sc fb k → trI T f sc e kp = some d → ∀ tg, PI X tg e (tI B kp d)
  Q : ∀ {X : Cx} {B : Bs} {sc : Scope} {fb : Str → Bool} {k : Nat} {es : List Expr} {d : DT}, Cok X B T sc fb k → trQ T f sc es = some d → PTs X es (tT B d)

/-! ### targets -/
section
variable {X : Cx} {B : Bs} {T : Tx} {sc : Scope} {fb : Str → Bool} {k : Nat}
theorem sto_ok (c : Cok X B T sc fb k) {n : Str} (h : stoB sc fb n = true) : Loc X.env.scope n ∧ (X.fn n = true ∨ X.env.scope.names.lookup n = some .local) := by
  unfold stoB at h
  rw [Bool.and_eq_true, Bool.or_eq_true, decide_eq_true_eq] at h
  rw [c.esc]
  exact ⟨locB_loc h.1, h.2.imp (c.fn n) id⟩
mutual
theorem trG_ok (c : Cok X B T sc fb k) : ∀ {e : Expr} {g : DG} {js : List Nat}, trG T sc fb e = some (g, js) → PG X e (tG B g js) ∧ ExG g ∧ (∃ env, (assignEach [e] env).length = 1) ∧ (match e with | .Starred .. => False | _ => True)
  | .Name n p, g, js, h => by
    simp only [trG] at h
    split at h
    · rename_i hs
      obtain ⟨i, h1, h2⟩ := Option.map_eq_some_iff.mp h
      cases h2
      obtain ⟨l1, l2⟩ := sto_ok c hs
      exact ⟨pg_nmN c.nd (by rw [c.N]; exact slotOf_get h1) l1 l2, exNm, ⟨X.env, rfl⟩, trivial⟩
    · cases h
  | .Tuple es n p, g, js, h => by
    simp only [trG] at h
    obtain ⟨⟨gs, js'⟩, h1, h2⟩ := Option.map_eq_some_iff.mp h
    cases h2
    obtain ⟨h3, h4, h5, h6⟩ := trGs_ok c h1
    exact ⟨pg_tupN c.K c.calm h3 (fun ds env kk q => by rw [h5]; exact (h4 ds env kk q).1) h6, exTup h4, ⟨X.env, rfl⟩, trivial⟩
  | .BoolOp .., _, _, h => by simp [trG] at h
  | .NamedExpr .., _, _, h => by simp [trG] at h
  | .BinOp .., _, _, h => by simp [trG] at h
  | .UnaryOp .., _, _, h => by simp [trG] at h
  | .Lambda .., _, _, h => by simp [trG] at h
  | .IfExp .., _, _, h => by simp [trG] at h
  | .Dict .., _, _, h => by simp [trG] at h
  | .Set .., _, _, h => by simp [trG] at h
  | .ListComp .., _, _, h => by simp [trG] at h
  | .SetComp .., _, _, h => by simp [trG] at h
  | .DictComp .., _, _, h => by simp [trG] at h
  | .GeneratorExp .., _, _, h => by simp [trG] at h
  | .Await .., _, _, h => by simp [trG] at h
  | .Yield .., _, _, h => by simp [trG] at h
  | .YieldFrom .., _, _, h => by simp [trG] at h
  | .Compare .., _, _, h => by simp [trG] at h
  | .Call .., _, _, h => by simp [trG] at h
  | .FormattedValue .., _, _, h => by simp [trG] at h
  | .JoinedStr .., _, _, h => by simp [trG] at h
  | .Constant .., _, _, h => by simp [trG] at h
  | .Attribute .., _, _, h => by simp [trG] at h
  | .Subscript .., _, _, h => by simp [trG] at h
  | .Starred .., _, _, h => by simp [trG] at h
  | .List .., _, _, h => by simp [trG] at h
  | .Slice .., _, _, h => by simp [trG] at h
theorem trGs_ok (c : Cok X B T sc fb k) : ∀ {es : List Expr} {g : List D → En → (En → Prop) → Prop} {js : List Nat}, trG.trGs T sc fb es = some (g, js) →
    PGs X es (tGs B g js) ∧ ExGs es.length g ∧ (assignEach es X.env).length = es.length ∧ (assignEach es X.env).findIdx? (·.1) = none
  | [], g, js, h => by
    simp only [trG.trGs] at h
    cases h
    exact ⟨pgs_nilN, exsNil, rfl, rfl⟩
  | e :: es, g, js, h => by
    simp only [trG.trGs] at h
    split at h
    · rename_i g1 js1 gs js2 h1 h2
      cases h
      obtain ⟨a1, a2, _, a4⟩ := trG_ok c h1
      obtain ⟨b1, b2, b3, b4⟩ := trGs_ok c h2
      have he : assignEach (e :: es) X.env = (false, assign e X.env) :: assignEach es X.env := by
        cases e <;> first | rfl | exact a4.elim
      refine ⟨pgs_consN a1 b1 fun p q => pgs_cons p q (by rw [he]; rfl), exsCons a2 b2, by rw [he, List.length_cons, List.length_cons, b3], ?_⟩
      rw [he, List.findIdx?_cons]
      simp [b4]
    · cases h
end
end

theorem Snd.zero (T : Tx) : Snd T 0 :=
  ⟨fun _ h => by simp [trE] at h, fun _ h => by simp [trF] at h, fun _ h => by simp [trP] at h, fun _ h => by simp [trT] at h, fun _ h => by simp [trTs] at h, fun _ h => by simp [trBs] at h, fun _ h => by simp [trA] at h,
    fun _ h => by simp [trAP] at h, fun _ h => by simp [trK] at h, fun _ h => by simp [trO] at h, fun _ h => by simp [trI] at h, fun _ h => by simp [trQ] at h⟩

section
variable {X : Cx} {B : Bs} {T : Tx} {sc : Scope} {fb : Str → Bool} {k f : Nat}
theorem stepP (S : Snd T f) (c : Cok X B T sc fb k) {e : Expr} {d : DE} (h : trP T (f + 1) sc e = some d) : PE X e (tP B d) := by
  simp only [trP] at h
  split at h
  · rename_i i hi
    cases h
    unfold isOwn at hi
    split at hi
    · split at hi
      · rename_i j hj
        split at hi
        · cases hi
          obtain ⟨a1, a2, a3, a4⟩ := c.slot hj
          exact pe_peekN a1 a2 a3 a4
        · cases hi
      · cases hi
    · cases hi
  · exact pe_pk (S.E c h)
theorem stepA (S : Snd T f) (c : Cok X B T sc fb k) {es : List Expr} {d : DA} {n : Nat} (h : trA T (f + 1) sc es = some (d, n)) : PA X es (tAE B n d) := by
  cases es with
  | nil => simp only [trA] at h; cases h; exact pa_nilE
  | cons e es =>
    simp only [trA] at h
    split at h
    · rename_i a as l h1 h2
      cases h
      exact pa_consE (S.E c h1) (S.A c h2) (star_plain (plain_trE h1))
    · cases h
theorem stepAP (S : Snd T f) (c : Cok X B T sc fb k) {es : List Expr} {d : DA} (h : trAP T (f + 1) sc es = some d) : PA X es (tAP B d) := by
  cases es with
  | nil => simp only [trAP] at h; cases h; exact pa_nilP
  | cons e es =>
    simp only [trAP] at h
    split at h
    · rename_i a as h1 h2
      cases h
      exact pa_consP (S.P c h1) (S.AP c h2) (star_plain (plain_trP h1))
    · cases h
theorem stepK (S : Snd T f) (c : Cok X B T sc fb k) {es : List Keyword} {d : DA} {n : Nat} (h : trK T (f + 1) sc es = some (d, n)) : PK X es (tAE B n d) := by
  cases es with
  | nil => simp only [trK] at h; cases h; exact pk_nilN
  | cons e es =>
    obtain ⟨nm, e, p⟩ := e
    simp only [trK] at h
    split at h
    · rename_i a as l h1 h2
      cases h
      exact pk_consN (S.E c h1) (S.K c h2)
    · cases h
theorem stepO (S : Snd T f) (c : Cok X B T sc fb k) {e : Option Expr} {d : DO} (h : trO T (f + 1) sc e = some d) : PO X e (tOo B d) := by
  cases e with
  | none => simp only [trO] at h; cases h; exact po_noneN
  | some e =>
    simp only [trO] at h
    obtain ⟨a, h1, rfl⟩ := Option.map_eq_some_iff.mp h
    exact po_someN (S.P c h1)
theorem stepQ (S : Snd T f) (c : Cok X B T sc fb k) {es : List Expr} {d : DT} (h : trQ T (f + 1) sc es = some d) : PTs X es (tT B d) := by
  match es with
  | [] => simp only [trQ] at h; cases h; exact pts_nilN
  | [e] => simp only [trQ] at h; exact pts_oneN (S.Te c h)
  | _ :: _ :: _ => simp [trQ] at h
theorem stepTs (S : Snd T f) (c : Cok X B T sc fb k) {op : BoolOp} {es : List Expr} {d : DT} (h : trTs T (f + 1) sc op es = some d) (pos : Pos) : PW X (.BoolOp op es pos) (tT B d) := by
  match es with
  | [] => simp [trTs] at h
  | [a] =>
    simp only [trTs] at h
    cases op with
    | And => exact pw_and1N (S.Te c h)
    | Or => exact pw_or1N (S.Te c h)
  | a :: b :: es =>
    simp only [trTs] at h
    split at h
    · rename_i t u h1 h2
      cases h
      cases op with
      | And => exact pw_andN (S.Te c h1) (S.Ts c h2 pos)
      | Or => exact pw_orN (S.Te c h1) (S.Ts c h2 pos)
    · cases h
theorem stepBs (S : Snd T f) (c : Cok X B T sc fb k) {op : BoolOp} {es : List Expr} {d : DE} (h : trBs T (f + 1) sc op es = some d) (pos : Pos) : PE X (.BoolOp op es pos) (tE B d) := by
  match es with
  | [] => simp [trBs] at h
  | [a] =>
    simp only [trBs] at h
    exact pe_one (S.E c h)
  | a :: b :: es =>
    simp only [trBs] at h
    split at h
    · rename_i t u h1 h2
      cases h
      cases op with
      | And => exact pe_andN (S.P c h1) (S.Bv c h2 pos)
      | Or => exact pe_orN (S.P c h1) (S.Bv c h2 pos)
    · cases h
theorem stepT (S : Snd T f) (c : Cok X B T sc fb k) {e : Expr} {d : DT} (h : trT T (f + 1) sc e = some d) : PT X e (tT B d) := by
  cases e with
  | UnaryOp op a pos =>
    cases op <;> simp only [trT] at h
    case Not =>
      obtain ⟨t, h1, rfl⟩ := Option.map_eq_some_iff.mp h
      exact pt_notN (S.Te c h1)
    all_goals cases h
  | BoolOp op es pos =>
    simp only [trT] at h
    exact (S.Ts c h pos).pt
  | Compare a ops es pos =>
    match ops, es with
    | [op], [b] =>
      simp only [trT] at h
      split at h
      · rename_i o x y h1 h2 h3
        split at h
        · cases h
        · cases h
          obtain ⟨R, r1, r2⟩ := cm_ok c h1
          exact pt_cmpN r1 r2 (S.P c h2) (S.P c h3) (mark_plain (plain_trP h3))
      · cases h
    | [op, op'], [b, b'] =>
      simp only [trT] at h
      split at h
      · rename_i o o' x y z h1 h2 h3 h4 h5
        split at h
        · cases h
        · cases h
          obtain ⟨R, r1, r2⟩ := cm_ok c h1
          obtain ⟨R', r1', r2'⟩ := cm_ok c h2
          exact pt_chainN r1 r1' r2 r2' (S.P c h3) (S.P c h4) (S.P c h5) (by show behindInMarks op' b' = false; exact mark_plain (plain_trP h5))
      · cases h
    | [], _ => simp [trT] at h
    | [_], [] => simp [trT] at h
    | [_], _ :: _ :: _ => simp [trT] at h
    | [_, _], [] => simp [trT] at h
    | [_, _], [_] => simp [trT] at h
    | [_, _], _ :: _ :: _ :: _ => simp [trT] at h
    | _ :: _ :: _ :: _, _ => simp [trT] at h
  | Name n p => simp only [trT] at h; obtain ⟨a, h1, rfl⟩ := Option.map_eq_some_iff.mp h; exact pt_valN (S.P c h1) fun _ => rfl
  | Call g es ks p => simp only [trT] at h; obtain ⟨a, h1, rfl⟩ := Option.map_eq_some_iff.mp h; exact pt_valN (S.P c h1) fun _ => rfl
  | Subscript g es p => simp only [trT] at h; obtain ⟨a, h1, rfl⟩ := Option.map_eq_some_iff.mp h; exact pt_valN (S.P c h1) fun _ => rfl
  | Constant v i p => simp only [trT] at h; obtain ⟨a, h1, rfl⟩ := Option.map_eq_some_iff.mp h; exact pt_valN (S.P c h1) fun _ => rfl
  | _ => simp [trT] at h
theorem stepI (S : Snd T f) (c : Cok X B T sc fb k) {e : Expr} {kp : Bool} {d : DI} (h : trI T (f + 1) sc e kp = some d) (tg : Expr) : PI X tg e (tI B kp d) := by
  have gen : ∀ {d : DI}, (if kp then trP T f sc e else trE T f sc e).map seqI = some d → PI X tg e (tI B kp d) := fun {d} h => by
    obtain ⟨a, h1, rfl⟩ := Option.map_eq_some_iff.mp h
    cases kp with
    | true => exact pi_seqP c.K (S.P c h1)
    | false => exact pi_seqE c.K (S.E c h1)
  unfold trI at h
  split at h
  · rename_i n _ a _
    split at h
    · rename_i hn
      subst hn
      split at h
      · rename_i hb
        obtain ⟨a', h1, rfl⟩ := Option.map_eq_some_iff.mp h
        obtain ⟨b1, b2, b3, b4⟩ := c.blt hb
        exact pi_rng1N b1 b3 (S.P c h1) (star_plain (plain_trP h1))
      · cases h
    · exact gen h
  · rename_i n _ a b _
    split at h
    · rename_i hn
      subst hn
      split at h
      · rename_i hb
        split at h
        · rename_i x y h1 h2
          cases h
          obtain ⟨b1, b2, b3, b4⟩ := c.blt hb
          exact pi_rng2N b1 b3 (S.P c h1) (S.P c h2) (by rw [star_plain (plain_trP h1), star_plain (plain_trP h2)]; rfl) (star_plain (plain_trP h2)) (star_plain (plain_trP h1))
        · cases h
      · cases h
    · exact gen h
  · split at h
    · cases h
    · exact gen h
end
end Nv

/-! N11: the induction's end. -/
namespace Nv
open PySem PySem.Spec PyProof.Rows L2
section
variable {X : Cx} {B : Bs} {T : Tx} {sc : Scope} {fb : Str → Bool} {k f : Nat}
theorem plain_trI {f : Nat} {e : Expr} {kp : Bool} {d : DI} (h : trI T f sc e kp = some d) : plainE e = true := by
  have gen : ∀ {f : Nat} {d : DI}, (if kp then trP T f sc e else trE T f sc e).map seqI = some d → plainE e = true := fun {f d} h => by
    obtain ⟨a, h1, rfl⟩ := Option.map_eq_some_iff.mp h
    cases kp with
    | true => exact plain_trP h1
    | false => exact plain_trE h1
  cases f with
  | zero => simp [trI] at h
  | succ f =>
    unfold trI at h
    split at h
    · rfl
    · rfl
    · split at h
      · cases h
      · exact gen h
theorem stepF (S : Snd T f) (c : Cok X B T sc fb k) {e : Expr} {d : DE} (h : trF T (f + 1) sc e = some d) : PE X e (tFr B d) := by
  unfold trF at h
  split at h
  · rename_i es p
    obtain ⟨⟨as, n⟩, h1, rfl⟩ := Option.map_eq_some_iff.mp h
    exact pe_lstN (S.A c h1)
  · rename_i elt cp scope p
    split at h
    · rename_i h0
      rw [Bool.and_eq_true, decide_eq_true_eq, decide_eq_true_eq] at h0
      split at h
      · rename_i own g js it t de h1 h2 h3 h4 h5
        split at h
        · rename_i hb
          rw [Bool.and_eq_true, List.all_eq_true] at hb
          cases h
          obtain ⟨tgt, iter, ifs, asy⟩ := cp
          obtain ⟨rfl, hk⟩ := h0
          exact pe_lcN c.calm c.nd (S.I c h3 tgt) (blkOk_by (by rw [c.N, c.esc]; exact hb.1)) (fun s H C cl fp => (trG_ok (c.blk hk) h2).1) (fun s H C cl fp => S.Q (c.blk hk) h4) (fun s H C cl fp => S.E (c.blk hk) h5)
            (fold_plain (plain_trI h3)) (fun j hj => by simpa using hb.2 j hj)
        · cases h
      · cases h
    · cases h
  · cases h
theorem kwNames_ok {env : Env} {pos : Pos} : ∀ {kws : List Keyword} {ks : List Str}, kwNames kws = some ks → (backToKw pos (keywordEach kws env)).all (·.1.isSome) = true ∧ (backToKw pos (keywordEach kws env)).filterMap (·.1) = ks ∧ (backToKw pos (keywordEach kws env)).any (·.1.isNone) = false
  | [], ks, h => by simp only [kwNames] at h; cases h; exact ⟨rfl, rfl, rfl⟩
  | ⟨none, _, _⟩ :: _, ks, h => by simp [kwNames] at h
  | ⟨some n, e, p⟩ :: kws, ks, h => by
    simp only [kwNames] at h
    obtain ⟨ks', h1, rfl⟩ := Option.map_eq_some_iff.mp h
    obtain ⟨a1, a2, a3⟩ := kwNames_ok (env := env) (pos := pos) h1
    refine ⟨?_, ?_, ?_⟩
    · show (true && (backToKw pos (keywordEach kws env)).all (·.1.isSome)) = true
      rw [a1]; rfl
    · show n :: (backToKw pos (keywordEach kws env)).filterMap (·.1) = n :: ks'
      rw [a2]
    · show (false || (backToKw pos (keywordEach kws env)).any (·.1.isNone)) = false
      rw [a3]; rfl
theorem stepE (S : Snd T f) (c : Cok X B T sc fb k) {e : Expr} {d : DE} (h : trE T (f + 1) sc e = some d) : PE X e (tE B d) := by
  unfold trE at h
  split at h
  · -- a name
    rename_i n p
    split at h
    · rename_i i hi
      cases h
      obtain ⟨a1, a2, a3, a4⟩ := c.slot hi
      exact pe_varN a1 a2 a3 a4
    · split at h
      · rename_i hg
        obtain ⟨d, h1, rfl⟩ := Option.map_eq_some_iff.mp h
        obtain ⟨u, v, e1, e2, e3⟩ := c.lk.cs n d h1
        obtain ⟨g1, g2⟩ := c.glo hg
        exact pe_cN (pe_glob g1 e1 e2 g2) e3
      · cases h
  · cases h; exact pe_cN pe_int fun _ => .int _
  · cases h; exact pe_cN pe_str fun _ => .str _
  · cases h; exact pe_cN pe_bl fun _ => .bl _
  · cases h; exact pe_cN pe_non fun _ => .non
  · -- a op b
    split at h
    · rename_i o x y h1 h2 h3
      cases h
      obtain ⟨R, r1, r2⟩ := op_ok c h1
      exact pe_opN r1 r2 (S.P c h2) (S.P c h3)
    · cases h
  · obtain ⟨a, h1, rfl⟩ := Option.map_eq_some_iff.mp h
    refine pe_unN un_neg (fun W H x d z Q p ez kk => ?_) (S.P c h1)
    unfold negD at ez
    split at ez
    · cases ez
      exact ⟨_, p.int, kk _ (.int _)⟩
    · cases ez
  · obtain ⟨a, h1, rfl⟩ := Option.map_eq_some_iff.mp h
    exact pe_notN (S.P c h1)
  · exact S.Bv c h _
  · split at h
    · rename_i o x y h1 h2 h3
      split at h
      · cases h
      · cases h
        obtain ⟨R, r1, r2⟩ := cm_ok c h1
        exact pe_cmpN r1 r2 (S.P c h2) (S.P c h3) (mark_plain (plain_trP h3))
    · cases h
  · split at h
    · rename_i o o' x y z h1 h2 h3 h4 h5
      split at h
      · cases h
      · cases h
        obtain ⟨R, r1, r2⟩ := cm_ok c h1
        obtain ⟨R', r1', r2'⟩ := cm_ok c h2
        exact pe_chainN r1 r1' r2 r2' (S.P c h3) (S.P c h4) (S.P c h5) (mark_plain (plain_trP h5))
    · cases h
  · split at h
    · rename_i t x y h1 h2 h3
      cases h
      exact pe_ifN (S.Te c h1) (S.E c h2) (S.E c h3)
    · cases h
  · obtain ⟨⟨as, n⟩, h1, rfl⟩ := Option.map_eq_some_iff.mp h
    exact pe_tupN (S.A c h1)
  · split at h
    · rename_i x l u h1 h2 h3
      cases h
      exact pe_slcN c.K (S.P c h1) (S.O c h2) (S.O c h3)
    · cases h
  · rename_i a _ _ _ _ _
    split at h
    · rename_i x h1
      have hP : PE X a (tP B x) := by
        split at h1
        · exact pe_frPk (S.F c h1)
        · exact S.P c h1
      split at h
      · cases h
        exact pe_shN (pe_revN c.K hP)
      · cases h
        exact pe_frz (pe_revN c.K hP)
    · cases h
  · cases h
  · split at h
    · rename_i x y h1 h2
      cases h
      exact pe_idxN c.K (S.P c h1) (S.P c h2) (plainIx (plain_trP h2))
    · cases h
  · -- a call by name
    rename_i n p es pos
    split at h
    · rename_i hg
      obtain ⟨g1, g2⟩ := c.glo hg
      split at h
      · rename_i ps Sm hS
        split at h
        · rename_i as l h1
          split at h
          · rename_i hlm
            subst hlm
            cases h
            obtain ⟨fa, fd, m1, m2, m3, m4, _⟩ := c.lk.fns n ps Sm hS
            have hA := S.A c h1
            cases es with
            | nil =>
              have e0 : as = nilA ∧ ps.length = 0 := by
                cases f with
                | zero => simp [trA] at h1
                | succ f => simp only [trA, Option.some.injEq, Prod.mk.injEq] at h1; exact ⟨h1.1.symm, h1.2.symm⟩
              obtain ⟨rfl, e0⟩ := e0
              rw [e0] at m4
              exact pe_callN0 m4 c.gd c.room g1 m1 m2 m3 c.tk g2
            | cons e es =>
              have pl := plain_trA h1
              exact pe_callN m4 c.gd c.room g1 m1 m2 m3 c.tk hA g2 (star_plain (pl e (List.mem_cons_self ..))) (back_star fun e' he => pl e' (List.mem_cons_of_mem _ he))
          · cases h
        · cases h
      · split at h
        · rename_i hb
          obtain ⟨b1, b2, b3, b4⟩ := c.blt hb
          split at h
          · rename_i a
            split at h
            · rename_i g as h1 h2
              cases h
              have hA := S.AP c h2
              have pl := plain_trAP h2
              have st := star_plain (es := []) (env := X.env) (pl a (List.mem_cons_self ..))
              unfold blt1 at h1
              split at h1
              · rename_i hn; subst hn; cases h1
                exact pe_bltB call_len (by rw [c.K]; exact doesLen) b1 b3 (by decide +kernel) hA b4 b2 st rfl
              · split at h1
                · rename_i hn; subst hn; cases h1
                  exact pe_bltB call_abs doesAbs b1 b3 (by decide +kernel) hA b4 b2 st rfl
                · split at h1
                  · rename_i hn; subst hn; cases h1
                    exact pe_bltT call_int1 doesInt b1 b3 (by decide +kernel) hA b4 b2 st rfl
                  · split at h1
                    · rename_i hn; subst hn; cases h1
                      exact pe_bltT call_tuple_of (by rw [c.K]; exact doesTup) b1 b3 (by decide +kernel) hA b4 b2 st rfl
                    · split at h1
                      · rename_i hn; subst hn; cases h1
                        exact pe_bltB (call_reprD c.room c.gd) (by rw [c.K]; exact doesRepr) b1 b3 (by decide +kernel) hA b4 b2 st rfl
                      · cases h1
            · cases h
          · rename_i a b
            split at h
            · rename_i g as h1 h2
              cases h
              have hA := S.AP c h2
              have pl := plain_trAP h2
              have st := star_plain (es := [b]) (env := X.env) (pl a (List.mem_cons_self ..))
              have st2 : (backTo pos (starEach [b] X.env)).any (·.1) = false := back_star fun e' he => pl e' (List.mem_cons_of_mem _ he)
              unfold blt2 at h1
              split at h1
              · rename_i hn; subst hn; cases h1
                exact pe_bltB (call_max2 c.calm) doesMax2 b1 b3 (by decide +kernel) hA b4 b2 st st2
              · split at h1
                · rename_i hn; subst hn; cases h1
                  exact pe_bltB (call_min2 c.calm) doesMin2 b1 b3 (by decide +kernel) hA b4 b2 st st2
                · cases h1
            · cases h
          · cases h
        · cases h
    · cases h
  · -- with keywords
    rename_i n p es kws pos _
    split at h
    · rename_i hg
      obtain ⟨g1, g2⟩ := c.glo hg
      split at h
      · rename_i ps Sm hS
        split at h
        · rename_i as l bs m ks h1 h2 h3
          split at h
          · rename_i hb
            simp only [Bool.and_eq_true, decide_eq_true_eq] at hb
            obtain ⟨⟨b1, rfl⟩, b2⟩ := hb
            cases h
            obtain ⟨fa, fd, m1, m2, m3, m4, m5⟩ := c.lk.fns n ps Sm hS
            have hlen : ∀ us ws : List D, us.length = l → ws.length = ks.length → (kwPut ps ks us ws).length = ps.length := fun us ws e1 e2 => by
              rw [← b2]
              exact kwPut_len (by simp [e1]) (by simp [e2])
            obtain ⟨k1, k2, k3⟩ := kwNames_ok (env := X.env) (pos := pos) h3
            cases es with
            | nil =>
              have e0 : as = nilA ∧ l = 0 := by
                cases f with
                | zero => simp [trA] at h1
                | succ f => simp only [trA] at h1; cases h1; exact ⟨rfl, rfl⟩
              obtain ⟨rfl, rfl⟩ := e0
              exact pe_kwN0 m4 c.gd c.room g1 m1 m2 (m5 0 ks b1) c.tk (S.K c h2) hlen k1 k2 g2 (by rw [k3]; rfl)
            | cons e es =>
              have pl := plain_trA h1
              exact pe_kwN m4 c.gd c.room g1 m1 m2 (m5 l ks b1) c.tk (S.A c h1) (S.K c h2) hlen k1 k2 g2 (star_plain (pl e (List.mem_cons_self ..))) (by rw [k3, back_star pl]; rfl)
          · cases h
        · cases h
      · cases h
    · cases h
  · -- o.pop()
    split at h
    · rename_i hj
      simp only [Bool.and_eq_true, decide_eq_true_eq] at hj
      obtain ⟨⟨h0, rfl⟩, hl⟩ := hj
      obtain ⟨a, h1, rfl⟩ := Option.map_eq_some_iff.mp h
      exact pe_popR (S.P c h1) (base_plain h0) hl
    · cases h
  · -- sep.join(..)
    split at h
    · rename_i hj
      rw [Bool.and_eq_true, decide_eq_true_eq] at hj
      obtain ⟨rfl, hl⟩ := hj
      obtain ⟨a, h1, rfl⟩ := Option.map_eq_some_iff.mp h
      exact pe_joinN c.K (S.P c h1) (star_plain (plain_trP h1)) hl
    · cases h
  · -- o.append(e)
    split at h
    · rename_i hj
      simp only [Bool.and_eq_true, decide_eq_true_eq] at hj
      obtain ⟨⟨h0, rfl⟩, hl⟩ := hj
      split at h
      · rename_i a b h1 h2
        cases h
        have st := star_plain (es := []) (env := X.env) (plain_trE h2)
        refine pe_apR (S.P c h1) (S.E c h2) (base_plain h0) ?_ hl st rfl
        rw [st]
        rfl
      · cases h
    · cases h
  · split at h
    · obtain ⟨a, h1, rfl⟩ := Option.map_eq_some_iff.mp h
      exact pe_shN (S.F c h1)
    · exact pe_frz (S.F c h)
theorem Snd.all (T : Tx) : ∀ f, Snd T f
  | 0 => Snd.zero T
  | f + 1 =>
    have S := Snd.all T f
    ⟨fun c h => stepE S c h, fun c h => stepF S c h, fun c h => stepP S c h, fun c h => stepT S c h, fun c h => stepTs S c h, fun c h => stepBs S c h, fun c h => stepA S c h, fun c h => stepAP S c h, fun c h => stepK S c h, fun c h => stepO S c h, fun c h => stepI S c h, fun c h => stepQ S c h⟩
end
end Nv

/-! N12: statements; a def by its text. -/
namespace Nv
open PySem PySem.Spec PyProof.Rows L2

/-- slots kept ahead of a line's statement -/
def frzL (is : List Nat) (s : DS) : DS := match is with
  | [] => s
  | i :: is => seqS (frzS i) (frzL is s)
def fzAt (T : Tx) (l : Nat) : List Nat := (T.fz.lookup l).getD []
/-- names of a row of targets: their slots -/
def nameSlots (T : Tx) (sc : Scope) (fb : Str → Bool) : List Expr → Option (List Nat)
  | [] => some []
  | .Name n _ :: es => if stoB sc fb n then match slotOf T.N n, nameSlots T sc fb es with
      | some i, some is => some (i :: is)
      | _, _ => none
    else none
  | _ => none
/-- a list of one's own, or a value -/
def trM (T : Tx) (f : Nat) (sc : Scope) : List Nat → List Expr → Option (List (Bool × DE))
  | [], [] => some []
  | i :: is, e :: es => match (if T.ow.contains i then (trF T f sc e).map (true, ·) else (trE T f sc e).map (false, ·)), trM T f sc is es with
    | some m, some ms => some (m :: ms)
    | _, _ => none
  | _, _ => none
/-- which stores are exchanged -/
def swpN (sc : Scope) (ts vs : List Expr) : Option (Option (List Str)) :=
  if !(ts.length == 2 || ts.length == 3) || vs.length != ts.length || sc.kind != .function then some none
  else if (vs.any fun | .Starred .. => true | _ => false) then some none
  else
    let line := (ts.head?.map (·.pos.line)).getD 0
    let names := ts.filterMap fun
      | .Name id pos => if sc.names.lookup id == some .local && pos.line == line then some id else none
      | _ => none
    if names.length != ts.length || names.eraseDups.length != names.length then some none
    else if vs.all (foldedForSure 8) then some none
    else if vs.all (constantsAlone 8) then none
    else some (some names)
def isComp : Expr → Bool
  | .ListComp .. => true
  | .SetComp .. => true
  | .DictComp .. => true
  | _ => false
def isTup : Expr → Bool
  | .Tuple .. => true
  | .List .. => true
  | _ => false
/-- does the comprehension store by itself -/
def lcSwap (sc : Scope) (scope : Scope) (n : Str) (np : Pos) (cp : Pos) : Bool := decide (sc.names.lookup n = some .local) && np.line == cp.line && !(scope.names.any fun (m, k) => m == n && (k == .local || k == .cell))

def parChk (sc : Scope) (ts es : List Expr) (ns : List Str) : Bool := match ts, es with
  | [.Name y _, .Name z _], [_, _] => decide (ns = [y, z]) && decide (sc.names.lookup y = some .local) && decide (sc.names.lookup z = some .local)
  | [.Name y _, .Name z _, .Name u _], [_, _, _] => decide (ns = [y, z, u]) && decide (sc.names.lookup y = some .local) && decide (sc.names.lookup z = some .local) && decide (sc.names.lookup u = some .local)
  | _, _ => false
mutual
def trS (T : Tx) : Nat → Scope → Stmt → Option DS
  | 0, _, _ => none
  | f + 1, sc, st => match st with
    | .Assign [.Name n np] e p => if stoB sc (fun _ => true) n then match slotOf T.N n with
        | some i => match (if T.ow.contains i then (trF T f sc e).map (setO i) else (trE T f sc e).map (setS i)) with
          | some s => match e with
            | .ListComp elt gs scope cp => if T.sh.contains (Expr.ListComp elt gs scope cp).pos.line then none else if lcSwap sc scope n np cp then some (frzL (fzAt T p.line) s) else if decide (sc.names.lookup n = some .local) then none else some (frzL (fzAt T p.line) s)
            | _ => if isComp e then none else some (frzL (fzAt T p.line) s)
          | none => none
        | none => none
      else none
    | .Assign [.Tuple ts k tp] (.Tuple es k2 ep) p => match nameSlots T sc (fun _ => true) ts with
      | some is => match trM T f sc is es with
        | some ms => match swpN sc ts es with
          | some none => if decide is.Nodup && decide (ms.length ≤ 1000) && decide (ms.length = is.length) then some (frzL (fzAt T p.line) (mparS is ms)) else none
          | some (some ns) => if decide is.Nodup && parChk sc ts es ns && decide (ms.length = is.length) then some (frzL (fzAt T p.line) (mparS is ms)) else none
          | none => none
        | none => none
      | none => none
    | .Assign [.Tuple ts k tp] e p => if isTup e || isComp e then none else match trG T sc (fun _ => true) (.Tuple ts k tp), trE T f sc e with
      | some (g, _), some a => some (frzL (fzAt T p.line) (letS g a))
      | _, _ => none
    | .Assign [.Subscript o ix sp] e p => if isComp e then none else match isOwn T sc o, trP T f sc o, trP T f sc ix, trE T f sc e with
      | some i, _, some x, some a => some (frzL (fzAt T p.line) (putS i x a))
      | none, some o, some x, some a => some (frzL (fzAt T p.line) (putR o x a))
      | _, _, _, _ => none
    | .Expr (.Call (.Attribute o m ap) [a] [] cp) p => match isOwn T sc o with
      | some i => if decide (m = "append") && ap.endLine == cp.line then (trE T f sc a).map fun x => frzL (fzAt T p.line) (appS i x) else none
      | none => (trP T f sc (.Call (.Attribute o m ap) [a] [] cp)).map fun a => frzL (fzAt T p.line) (exS a)
    | .Expr e p => if isComp e then none else (trP T f sc e).map fun a => frzL (fzAt T p.line) (exS a)
    | .Return (some e) p => (trE T f sc e).map fun a => frzL (fzAt T p.line) (retS a)
    | .Return none p => some retN
    | .If t a b p => match trT T f sc t, trSs T f sc a, trSs T f sc b with
      | some t, some a, some b => some (frzL (fzAt T p.line) (ifS t a b))
      | _, _, _ => none
    | .While t a [] p => match trT T f sc t, trSs T f sc a with
      | some t, some a => some (frzL (fzAt T p.line) (whS t a))
      | _, _ => none
    | .For tg it a [] p => match trI T f sc it false, trG T sc (fun _ => true) tg, trSs T f sc a with
      | some it, some (g, _), some a => some (frzL (fzAt T p.line) (forS it g a))
      | _, _, _ => none
    | .Pass p => some skipS
    | .Break p => some brkS
    | .Continue p => some cntS
    | _ => none
def trSs (T : Tx) : Nat → Scope → List Stmt → Option DS
  | 0, _, _ => none
  | f + 1, sc, sts => match sts with
    | [] => some skipS
    | [st] => trS T f sc st
    | st :: sts => match trS T f sc st, trSs T f sc sts with
      | some a, some b => some (seqS a b)
      | _, _ => none
end

section
variable {X : Cx} {B : Bs} {T : Tx} {sc : Scope} {k f : Nat}
theorem ps_frzL {X : Cx} {B : Bs} {st : Stmt} {a : DS} (h : PS X st (tS B a)) : ∀ is : List Nat, PS X st (tS B (frzL is a))
  | [] => h
  | i :: is => ps_frzN i (ps_frzL h is)
theorem sw_none {e : Expr} {l : Nat} {env : Env} (h : isComp e = false) : swapsWith e none l env = pure false := by cases e <;> first | rfl | cases h
theorem sw_some {e : Expr} {t : Expr} {l : Nat} {env : Env} (h : isComp e = false) : swapsWith e (some t) l env = pure false := by cases e <;> first | rfl | cases h
theorem swpN_ok (c : Cok X B T sc (fun _ => true) k) {ts vs : List Expr} {k1 k2 : Nat} {p1 p2 : Pos} {r : Option (List Str)} (h : swpN sc ts vs = some r) : swappedStores [.Tuple ts k1 p1] (.Tuple vs k2 p2) X.env = pure r := by
  have hb : X.env.blockKind = .function := by
    unfold Env.blockKind
    rw [c.esc, c.kind]
    rfl
  have hk : ∀ n, X.env.kindOf n = sc.names.lookup n := fun n => by rw [← c.esc]; rfl
  unfold swpN at h
  unfold swappedStores
  simp only [hb, hk, c.kind] at h ⊢
  split at h
  · rename_i h1
    cases h
    exact if_pos h1
  · rename_i h1
    refine (if_neg h1).trans ?_
    split at h
    · rename_i h2
      cases h
      exact if_pos h2
    · rename_i h2
      refine (if_neg h2).trans ?_
      split at h
      · rename_i h3
        cases h
        exact if_pos h3
      · rename_i h3
        refine (if_neg h3).trans ?_
        split at h
        · rename_i h4
          cases h
          exact if_pos h4
        · rename_i h4
          refine (if_neg h4).trans ?_
          split at h
          · cases h
          · rename_i h5
            cases h
            exact if_neg h5

theorem nameSlots_ok (c : Cok X B T sc (fun _ => true) k) : ∀ {ts : List Expr} {is : List Nat}, nameSlots T sc (fun _ => true) ts = some is → ts.length = is.length ∧ (assignEach ts X.env).length = is.length ∧ (assignEach ts X.env).findIdx? (·.1) = none ∧
    ∀ (j : Nat) (e : Expr), ts[j]? = some e → ∃ (n : Str) (p : Pos) (i : Nat), e = .Name n p ∧ is[j]? = some i ∧ X.N[i]? = some n ∧ Loc X.env.scope n ∧ (X.fn n = true ∨ X.env.scope.names.lookup n = some .local)
  | [], is, h => by
    simp only [nameSlots] at h
    cases h
    exact ⟨rfl, rfl, rfl, fun j e q => by simp at q⟩
  | e :: ts, is, h => by
    cases e with
    | Name n p =>
      simp only [nameSlots] at h
      split at h
      · rename_i hs
        split at h
        · rename_i i is' h1 h2
          cases h
          obtain ⟨a1, a2, a3, a4⟩ := nameSlots_ok c h2
          obtain ⟨l1, l2⟩ := sto_ok c hs
          refine ⟨by simp [a1], by show (assignEach ts X.env).length + 1 = _; simp [a2], ?_, fun j e q => ?_⟩
          · show ((false, assign (.Name n p) X.env) :: assignEach ts X.env).findIdx? (·.1) = none
            rw [List.findIdx?_cons]
            simp [a3]
          · cases j with
            | zero => simp at q; subst q; exact ⟨n, p, i, rfl, rfl, by rw [c.N]; exact slotOf_get h1, l1, l2⟩
            | succ j => simpa using a4 j e (by simpa using q)
        · cases h
      · cases h
    | _ => simp [nameSlots] at h
theorem trM_ok (c : Cok X B T sc (fun _ => true) k) : ∀ {is : List Nat} {es : List Expr} {ms : List (Bool × DE)}, trM T f sc is es = some ms → PA X es (tMx B ms)
  | [], [], ms, h => by simp only [trM] at h; cases h; exact pa_nilM
  | [], _ :: _, ms, h => by simp [trM] at h
  | _ :: _, [], ms, h => by simp [trM] at h
  | i :: is, e :: es, ms, h => by
    simp only [trM] at h
    split at h
    · rename_i m ms' h1 h2
      cases h
      split at h1
      · obtain ⟨a, h3, rfl⟩ := Option.map_eq_some_iff.mp h1
        exact pa_ownM ((Snd.all T f).F c h3) (trM_ok c h2) (star_plain (plain_trF h3))
      · obtain ⟨a, h3, rfl⟩ := Option.map_eq_some_iff.mp h1
        exact pa_valM ((Snd.all T f).E c h3) (trM_ok c h2) (star_plain (plain_trE h3))
    · cases h
theorem assign_sub {o i : Expr} {pos : Pos} {env : Env} (h : plainE i = true) : ∀ v, assign (.Subscript o i pos) env v = (do
      let ov ← holding [v] (eval o env)
      let iv ← holding [v, ov] (eval i env)
      standAt pos
      holding [v, ov, iv] (setItem ov iv v)
      release [v, ov, iv] []) := by
  intro v
  cases i <;> first | rfl | cases h
theorem isOwn_name {o : Expr} {i : Nat} (h : isOwn T sc o = some i) : ∃ n p, o = .Name n p ∧ rdSlot T sc n = some i := by
  unfold isOwn at h
  split at h
  · rename_i n p
    split at h
    · rename_i j hj
      split at h
      · cases h; exact ⟨n, p, rfl, hj⟩
      · cases h
    · cases h
  · cases h
theorem trF_lc {fb : Str → Bool} (c : Cok X B T sc fb k) {elt : Expr} {gs : List Comprehension} {scope : Scope} {p : Pos} {a : DE} (h : trF T f sc (.ListComp elt gs scope p) = some a) :
    ∃ (tgt iter : Expr) (ifs : List Expr) (own : List (Str × Nat)) (it : DI) (g : DG) (t : DT) (de : DE) (js : List Nat), gs = [⟨tgt, iter, ifs, 0⟩] ∧ a = compD it g t de (own.map (·.2)) ∧ PI X tgt iter (tI B true it) ∧ BlkOk X.N X.env.scope scope own ∧
      (∀ (s : Shared) (H : Hp) (C : Addr) (cl : List (Str × Addr)) (fp : List Addr), PG (X.blk s H scope (compEnvC scope cl C X.env) fp) tgt (tG B.nox g js)) ∧ (∀ (s : Shared) (H : Hp) (C : Addr) (cl : List (Str × Addr)) (fp : List Addr), PTs (X.blk s H scope (compEnvC scope cl C X.env) fp) ifs (tT B.nox t)) ∧
      (∀ (s : Shared) (H : Hp) (C : Addr) (cl : List (Str × Addr)) (fp : List Addr), PE (X.blk s H scope (compEnvC scope cl C X.env) fp) elt (tE B.nox de)) ∧ (∀ x, foldedSetIterable iter X.env x = pure x) ∧ (∀ j ∈ js, j ∈ own.map (·.2)) := by
  cases f with
  | zero => simp [trF] at h
  | succ f =>
    have S := Snd.all T f
    match gs with
    | [cp] =>
      simp only [trF] at h
      split at h
      · rename_i h0
        rw [Bool.and_eq_true, decide_eq_true_eq, decide_eq_true_eq] at h0
        split at h
        · rename_i own g js it t de h1 h2 h3 h4 h5
          split at h
          · rename_i hb
            rw [Bool.and_eq_true, List.all_eq_true] at hb
            cases h
            obtain ⟨tgt, iter, ifs, asy⟩ := cp
            obtain ⟨rfl, hk⟩ := h0
            exact ⟨tgt, iter, ifs, own, it, g, t, de, js, rfl, rfl, S.I c h3 tgt, blkOk_by (by rw [c.N, c.esc]; exact hb.1), fun s H C cl fp => (trG_ok (c.blk hk) h2).1, fun s H C cl fp => S.Q (c.blk hk) h4, fun s H C cl fp => S.E (c.blk hk) h5,
              fold_plain (plain_trI h3), fun j hj => by simpa using hb.2 j hj⟩
          · cases h
        · cases h
      · cases h
    | [] => simp [trF] at h
    | _ :: _ :: _ => simp [trF] at h
structure SndS (T : Tx) (f : Nat) : Prop where
  S : ∀ {X : Cx} {B : Bs} {sc : Scope} {k : Nat} {st : Stmt} {d : DS}, Cok X B T sc (fun _ => true) k → trS T f sc st = some d → PS X st (tS B d)
  Ss : ∀ {X : Cx} {B : Bs} {sc : Scope} {k : Nat} {st : List Stmt} {d : DS}, Cok X B T sc (fun _ => true) k → trSs T f sc st = some d → PSs X st (tS B d)
theorem stepSs (S : SndS T f) (c : Cok X B T sc (fun _ => true) k) {st : List Stmt} {d : DS} (h : trSs T (f + 1) sc st = some d) : PSs X st (tS B d) := by
  match st with
  | [] => simp only [trSs] at h; cases h; exact pss_nilN
  | [st] => simp only [trSs] at h; exact pss_oneN (S.S c h)
  | st :: st2 :: sts =>
    simp only [trSs] at h
    split at h
    · rename_i a b h1 h2
      cases h
      exact pss_consN (S.S c h1) (S.Ss c h2)
    · cases h
theorem lcSwap_true (c : Cok X B T sc (fun _ => true) k) {elt : Expr} {gs : List Comprehension} {scope : Scope} {n : Str} {np cp : Pos} {l : Nat} (h : lcSwap sc scope n np cp = true) : X.env.scope.names.lookup n = some .local ∧ swapsWith (.ListComp elt gs scope cp) (some (.Name n np)) l X.env = pure true := by
  unfold lcSwap at h
  simp only [Bool.and_eq_true, decide_eq_true_eq, Bool.not_eq_true'] at h
  obtain ⟨⟨h1, h2⟩, h3⟩ := h
  have hl : X.env.scope.names.lookup n = some .local := by rw [c.esc]; exact h1
  exact ⟨hl, sw_true (by rw [c.esc]; exact c.kind) hl h2 h3⟩
theorem lcSwap_cell (c : Cok X B T sc (fun _ => true) k) {elt : Expr} {gs : List Comprehension} {scope : Scope} {n : Str} {np cp : Pos} {l : Nat} (h : ¬ sc.names.lookup n = some .local) : swapsWith (.ListComp elt gs scope cp) (some (.Name n np)) l X.env = pure false := by
  have hk : (X.env.kindOf n == some NameKind.local) = false := by
    have e : X.env.kindOf n = sc.names.lookup n := by rw [← c.esc]; rfl
    rw [e]
    simpa using h
  unfold swapsWith
  simp only [hk, Bool.and_false, Bool.false_and]
theorem stepS (S : SndS T f) (c : Cok X B T sc (fun _ => true) k) {st : Stmt} {d : DS} (h : trS T (f + 1) sc st = some d) : PS X st (tS B d) := by
  have A := Snd.all T f
  unfold trS at h
  split at h
  · -- name = e
    rename_i n np e p
    split at h
    · rename_i hs
      obtain ⟨l1, l2⟩ := sto_ok c hs
      split at h
      · rename_i i hi
        have hN : X.N[i]? = some n := by rw [c.N]; exact slotOf_get hi
        split at h
        · rename_i s h1
          split at h
          · rename_i elt gs scope cp
            split at h
            · cases h
            rename_i hsh
            split at h
            · -- stored by the comprehension
              rename_i hsw
              cases h
              refine ps_frzL ?_ _
              obtain ⟨e1, e2⟩ := lcSwap_true c (elt := elt) (gs := gs) (l := p.line) hsw
              split at h1
              · obtain ⟨a, h2, rfl⟩ := Option.map_eq_some_iff.mp h1
                obtain ⟨tgt, iter, ifs, own, it, g, t, de, js, rfl, rfl, b1, b2, b3, b4, b5, b6, b7⟩ := trF_lc c h2
                exact ps_lcOf c.calm c.nd hN e1 e2 b1 b2 b3 b4 b5 b6 b7 fun E σ H hh => setO_aux hh
              · obtain ⟨a, h2, rfl⟩ := Option.map_eq_some_iff.mp h1
                cases f with
                | zero => simp [trE] at h2
                | succ f =>
                  simp only [trE] at h2
                  rw [if_neg hsh] at h2
                  obtain ⟨tgt, iter, ifs, own, it, g, t, de, js, rfl, rfl, b1, b2, b3, b4, b5, b6, b7⟩ := trF_lc c h2
                  exact ps_lcOf c.calm c.nd hN e1 e2 b1 b2 b3 b4 b5 b6 b7 fun E σ H hh => setLc_aux hh
            · split at h
              · cases h
              · rename_i hl
                cases h
                refine ps_frzL ?_ _
                have hsw := lcSwap_cell c (elt := elt) (gs := gs) (scope := scope) (n := n) (np := np) (cp := cp) (l := p.line) (by simpa using hl)
                split at h1
                · obtain ⟨a, h2, rfl⟩ := Option.map_eq_some_iff.mp h1
                  exact ps_setON c.nd hN l1 l2 (A.F c h2) hsw
                · obtain ⟨a, h2, rfl⟩ := Option.map_eq_some_iff.mp h1
                  exact ps_setN c.nd hN l1 l2 (A.E c h2) hsw
          · split at h
            · cases h
            · rename_i hc
              cases h
              refine ps_frzL ?_ _
              have hsw : swapsWith e (some (.Name n np)) p.line X.env = pure false := sw_some (by simpa using hc)
              split at h1
              · obtain ⟨a, h2, rfl⟩ := Option.map_eq_some_iff.mp h1
                exact ps_setON c.nd hN l1 l2 (A.F c h2) hsw
              · obtain ⟨a, h2, rfl⟩ := Option.map_eq_some_iff.mp h1
                exact ps_setN c.nd hN l1 l2 (A.E c h2) hsw
        · cases h
      · cases h
    · cases h
  · -- a, b = x, y
    rename_i ts k1 tp es k2 ep p
    split at h
    · rename_i is h1
      obtain ⟨n1, n2, n3, n4⟩ := nameSlots_ok c h1
      split at h
      · rename_i ms h2
        have hA := trM_ok c h2
        split at h
        · rename_i h3
          split at h
          · rename_i hb
            simp only [Bool.and_eq_true, decide_eq_true_eq] at hb
            cases h
            refine ps_frzL ?_ _
            exact ps_parLN c.calm c.nd hb.1.1 n4 n1 hA hb.2 (Nat.le_of_lt (small1000 hb.1.2)) n2 n3 rfl (swpN_ok c h3) rfl
          · cases h
        · rename_i ns h3
          split at h
          · rename_i hb
            simp only [Bool.and_eq_true, decide_eq_true_eq] at hb
            cases h
            refine ps_frzL ?_ _
            have hsw := swpN_ok c h3 (k1 := k1) (k2 := k2) (p1 := tp) (p2 := ep)
            have hpc := hb.1.2
            have ndd := hb.1.1
            unfold parChk at hpc
            split at hpc
            · rename_i y p1 z p2 e1 e2
              simp only [Bool.and_eq_true, decide_eq_true_eq] at hpc
              obtain ⟨⟨rfl, hy⟩, hz⟩ := hpc
              obtain ⟨m1, q1, i, x1, i1, i2, _⟩ := n4 0 _ rfl
              obtain ⟨m2, q2, j, x2, j1, j2, _⟩ := n4 1 _ rfl
              cases x1
              cases x2
              have his : is = [i, j] := by
                match is, n1, i1, j1 with
                | [a, b], _, i1, j1 => simp at i1 j1; rw [i1, j1]
              subst his
              exact ps_par2N c.calm c.nd i2 j2 (by simpa using ndd) (by rw [c.esc]; exact hy) (by rw [c.esc]; exact hz) hA hb.2 hsw rfl
            · rename_i y p1 z p2 u p3 e1 e2 e3
              simp only [Bool.and_eq_true, decide_eq_true_eq] at hpc
              obtain ⟨⟨⟨rfl, hy⟩, hz⟩, hu⟩ := hpc
              obtain ⟨m1, q1, i, x1, i1, i2, _⟩ := n4 0 _ rfl
              obtain ⟨m2, q2, j, x2, j1, j2, _⟩ := n4 1 _ rfl
              obtain ⟨m3, q3, l, x3, l1, l2, _⟩ := n4 2 _ rfl
              cases x1
              cases x2
              cases x3
              have his : is = [i, j, l] := by
                match is, n1, i1, j1, l1 with
                | [a, b, c], _, i1, j1, l1 => simp at i1 j1 l1; rw [i1, j1, l1]
              subst his
              simp only [List.nodup_cons, List.mem_cons, List.not_mem_nil, or_false, not_or, not_false_eq_true, List.nodup_nil, and_true] at ndd
              exact ps_par3N c.calm c.nd i2 j2 l2 ndd.1.1 ndd.1.2 ndd.2 (by rw [c.esc]; exact hy) (by rw [c.esc]; exact hz) (by rw [c.esc]; exact hu) hA hb.2 hsw rfl
            · cases hpc
          · cases h
        · cases h
      · cases h
    · cases h
  · -- a, b = e
    rename_i ts k1 tp e p _
    split at h
    · cases h
    · rename_i hh
      rw [Bool.not_eq_true, Bool.or_eq_false_iff] at hh
      split at h
      · rename_i g js a h1 h2
        cases h
        refine ps_frzL ?_ _
        refine ps_letN (A.E c h2) (trG_ok c h1).1 (show swapsWith e (some (.Tuple ts k1 tp)) p.line X.env = pure false from sw_some hh.2) ?_ rfl
        cases e <;> first | rfl | (exact absurd hh.1 (by simp [isTup]))
      · cases h
  · -- x[i] = e
    rename_i o ix sp e p
    split at h
    · cases h
    · rename_i hc
      split at h
      · rename_i i x a h1 h2 h3
        cases h
        refine ps_frzL ?_ _
        obtain ⟨n, np, rfl, hsl⟩ := isOwn_name h1
        obtain ⟨a1, a2, a3, a4⟩ := c.slot hsl
        exact ps_putN a1 a2 a3 a4 (A.E c h3) (A.P c h2) (fun u q => pg_sub u q set_list (assign_sub (plain_trP h2))) (show swapsWith e (some (.Subscript (.Name n np) ix sp)) p.line X.env = pure false from sw_some (by simpa using hc)) (by cases e <;> rfl) rfl
      · rename_i od x a h1 h2 h3 h4
        cases h
        refine ps_frzL ?_ _
        exact ps_putR (A.E c h4) (A.P c h2) (A.P c h3) (fun u q => pg_sub u q set_list (assign_sub (plain_trP h3))) (show swapsWith e (some (.Subscript o ix sp)) p.line X.env = pure false from sw_some (by simpa using hc)) (by cases e <;> rfl) rfl
      · cases h
  · -- x.append(e)
    rename_i o m ap a cp p
    split at h
    · rename_i i h1
      split at h
      · rename_i hm
        rw [Bool.and_eq_true, decide_eq_true_eq] at hm
        obtain ⟨rfl, hl⟩ := hm
        obtain ⟨x, h2, rfl⟩ := Option.map_eq_some_iff.mp h
        refine ps_frzL ?_ _
        obtain ⟨n, np, rfl, hsl⟩ := isOwn_name h1
        obtain ⟨a1, a2, a3, a4⟩ := c.slot hsl
        have st := star_plain (es := []) (env := X.env) (plain_trE h2)
        refine ps_appN a1 a2 a3 a4 (A.E c h2) rfl ?_ hl st rfl rfl
        rw [st]
        rfl
      · cases h
    · obtain ⟨x, h2, rfl⟩ := Option.map_eq_some_iff.mp h
      exact ps_frzL (ps_exN (A.P c h2) rfl) _
  · -- an expression
    rename_i e p _
    split at h
    · cases h
    · rename_i hc
      obtain ⟨a, h1, rfl⟩ := Option.map_eq_some_iff.mp h
      refine ps_frzL ?_ _
      exact ps_exN (A.P c h1) (sw_none (by simpa using hc))
  · obtain ⟨a, h1, rfl⟩ := Option.map_eq_some_iff.mp h
    exact ps_frzL (ps_retNN (A.E c h1)) _
  · cases h
    exact ps_ret0N
  · split at h
    · rename_i t a b h1 h2 h3
      cases h
      exact ps_frzL (ps_ifN (A.Te c h1) (S.Ss c h2) (S.Ss c h3)) _
    · cases h
  · split at h
    · rename_i t a h1 h2
      cases h
      exact ps_frzL (ps_whN c.po (A.Te c h1) (S.Ss c h2)) _
    · cases h
  · split at h
    · rename_i it g js a h1 h2 h3
      cases h
      exact ps_frzL (ps_forN c.po c.calm (A.I c h1 _) (fun W1 => (trG_ok (c.at W1) h2).1) (fun W1 => S.Ss (c.at W1) h3) (fold_plain (plain_trI h1))) _
    · cases h
  · cases h; exact ps_passN
  · cases h; exact ps_brkN
  · cases h; exact ps_cntN
  · cases h
theorem SndS.all (T : Tx) : ∀ f, SndS T f
  | 0 => ⟨fun _ h => by simp [trS] at h, fun _ h => by simp [trSs] at h⟩
  | f + 1 =>
    have S := SndS.all T f
    ⟨fun c h => stepS S c h, fun c h => stepSs S c h⟩
end

/-! ### a def by its text -/
/-- the ends of a body -/
def ktOf (q : D → Rs → Prop) (x : Nat → List D → Rs → Prop) : Kt := { nx := fun _ r => q .non r, rt := q, bk := fun _ _ => False, ct := fun _ _ => False, x := fun c fs _ r => x c fs r }
/-- the slots at the entry -/
def startE (n : Nat) (ds : List D) : En := ds.map Sl.val ++ List.replicate (n - ds.length) .un
theorem start_lo {G : Sg} {W : Wd} {H0 H : Hp} {N : List Str} {vs : List V} {ds : List D} (p : DpA G W vs ds) : Lo G W H0 H (startE N.length ds) (L2.start N vs) := by
  have hl := p.length
  refine ⟨by unfold startE L2.start; simp [hl], fun i s e => ?_, fun i j a xs ys hij e1 _ _ => ?_⟩
  · unfold startE at e
    unfold L2.start
    by_cases hi : i < ds.length
    · rw [List.getElem?_append_left (by simpa using hi)] at e
      rw [List.getElem?_append_left (by simpa [hl] using hi)]
      rw [List.getElem?_map] at e
      obtain ⟨d, h1, rfl⟩ := Option.map_eq_some_iff.mp e
      obtain ⟨v, h2, h3⟩ := p.get h1
      exact ⟨v, by rw [List.getElem?_map, h2]; rfl, h3⟩
    · rw [List.getElem?_append_right (by simpa using hi), List.getElem?_replicate] at e
      split at e
      · cases e; trivial
      · cases e
  · unfold startE at e1
    by_cases hi : i < ds.length
    · rw [List.getElem?_append_left (by simpa using hi), List.getElem?_map] at e1
      obtain ⟨d, h1, h2⟩ := Option.map_eq_some_iff.mp e1
      cases h2
    · rw [List.getElem?_append_right (by simpa using hi), List.getElem?_replicate] at e1
      split at e1 <;> cases e1
/-- THE RULE: a def whose text is read as den keeps the promise S, if den does -/
theorem fn_sound {P : Program} {w : World} {K : PySem.W.Frag} {mg : Str → Option Value} {base : Heap} {G : Sg} {T : Tx} {k f : Nat} {nm qual : Str} {st : Stmt} {fa : Addr} {fd : FuncData} {ps : List Str} {den : DS} {n : Nat} {S : Sem}
    (hK : K = G.K) (F : Fun K nm qual st fa fd) (sc : FnScope T.N ps (defScope st)) (lk : Lk P w K mg base G T k) (ht : trSs T f (defScope st) (defBody st) = some den) (hn : ps.length = n)
    (h : ∀ (ds : List D) (r : Rs) (x : Nat → List D → Rs → Prop) (q : D → Rs → Prop), ds.length = n → S ds r x q → den (startE T.N.length ds) r (ktOf q x)) : FnG P w K mg base (k + 1) fa fd ps (spS G n S) := by
  refine fnG_of F sc (fun vs H Q E q => q.1.trans hn.symm) fun cdv A outer s H vs Q E hg hr hsp => ?_
  obtain ⟨hl, W, r, ds, x, q, g, p, hS, hq, hx⟩ := hsp
  let B : Bs := ⟨G, W, H, fun cls d _ H' => E cls d H'⟩
  have c : Cok (cxOf (L2.CX P w) P w K mg base T.N qual (defScope st) fa cdv A outer s H E) B T (defScope st) (fun _ => true) k :=
    ⟨lk, hK, rfl, sc.nd, rfl, sc.kind, rfl, hr, hg, takes_of rfl rfl rfl rfl, passes_of rfl, fun _ _ => rfl⟩
  refine ⟨_, (SndS.all T f).Ss c ht, ?_⟩
  refine ⟨W, startE T.N.length ds, r, ktOf q x, ⟨start_lo p, g, .refl W H⟩, ?_, h ds r x q (by rw [← p.length]; exact hl) hS, ?_⟩
  · intro cl fs env r' hc W' σ' H' dx kvs S' e1 e2 e3
    exact hx cl fs r' hc W' H' dx kvs S'.st S'.gd e1 e2 e3
  · exact ⟨fun env r' h' W' σ' H' S' => hq .non r' h' W' .non H' S'.st S'.gd .non, fun _ _ h' => h'.elim, fun _ _ h' => h'.elim, fun d r' h' W' v H' g' s' p' => hq d r' h' W' v H' s' g' p'⟩
end Nv

/-! N13: from the law's def to the row. -/
namespace Nv
open PySem PySem.Spec PyProof.Rows L2

theorem law_callG {P : Program} {w : World} {K : PySem.W.Frag} {mg mb : Str → Option Value} {k : Nat} {fa a : Addr} {fd : FuncData} {x : Str} {sp : Sp} {s : Shared} {vs : List Value} {ns : List Int}
    (KX : K.In s.heap) (hns : s.heap.Ns mainGlobals mg) (hb : s.heap.Ns builtinsNs mb)
    (hbb : ∀ x : Str, x ≠ "__name__" → mb x = bootBuiltins x) (hlim : s.heap.NoLimit) (hg : s.gens = #[])
    (ha : s.heap.get? a = some { cls := .type "list", data := .seq vs.toArray }) (hi : IntsAre vs ns)
    (hl : ns.length ≤ sizeLine) (hr : Room k callerA)
    (F : ∀ base : Heap, K.In base → base.Ns mainGlobals mg → FnG P w K mg base k fa fd [x] sp)
    (bind1 : ∀ (s : Shared) (u : Value), BindsTo s fd ⟨[u], []⟩ [(x, u)])
    (hsp : ∀ H : Hp, Only H → SqL K H a (ns.map V.int) → sp [.ref a] H (fun v _ => v = .bl true) fun _ _ _ => False) :
    codeAny (model P w) callerA (.call (.ref fa) ⟨[.ref a], []⟩)
      (fun r s' => r = .ok (.ret (.bool true)) ∧ OldK s.heap s'.heap ∧ s'.os = s.os ∧ AllBare s'.gens) s := by
  have rv := vals_ints hi
  have core : ∀ H : Hp, Only H → SqL K H a (ns.map V.int) → HOk P w H s.heap →
      (∀ b, H b ≠ none → b = a) → (H a ≠ none → K.lookup a = none) →
      codeAny (model P w) callerA (.call (.ref fa) ⟨[.ref a], []⟩)
        (fun r s' => r = .ok (.ret (.bool true)) ∧ OldK s.heap s'.heap ∧ s'.os = s.os ∧ AllBare s'.gens) s := by
    intro H only sq hok one unk
    -- what is not the script is not tracked
    have untr : ∀ {b : Addr} {o : Obj} {es : Array DictEntry} {ep : Nat},
        s.heap.get? b = some o → o.data = .dict es ep → H b = none := by
      intro b o es ep e d
      refine Classical.byContradiction fun q => ?_
      have z := one b q
      subst z
      rw [ha] at e
      cases e
      cases (show Data.seq vs.toArray _ = Data.dict es ep from d)
    have ns' : ∀ {b : Addr} {m : Str → Option Value}, s.heap.Ns b m → (hidT s.heap H).Ns b m := by
      rintro b m ⟨o, es, ep, e, d, r⟩
      exact ⟨o, es, ep, hidT_get e (untr e d), d, r⟩
    have kin : K.In (hidT s.heap H) := by
      intro b o e
      refine hidT_get (KX b o e) (Classical.byContradiction fun q => ?_)
      have z := one b q
      subst z
      rw [unk q] at e
      cases e
    obtain ⟨mc, c1, c2⟩ := hlim
    have md : Mod K mg (hidT s.heap H) :=
      ⟨kin, ns' hns, ⟨mb, ns' hb, hbb⟩, ⟨mc, ns' c1, c2⟩⟩
    have env : Env0 P w K mg (hidT s.heap H) callerA [] s H := by
      refine ⟨rfl, md, fun b o e => of_hidT e, Nat.le_of_eq (hidT_size _ _), trivial, ?_, hok, .of_eq hg⟩
      intro b hb
      exact absurd (show b ∈ ([] : List Addr) from hb) (by simp)
    have run := (F _ kin (ns' hns)).run callerA [] s H ⟨[.ref a], []⟩ [.ref a] [.ref a] _ _
      rfl hr env (bind1 s (.ref a)) (.cons rfl .nil) (hsp H only sq)
    refine codeAny_mono run ?_
    intro r s' h
    cases r with
    | error e =>
      obtain ⟨_, _, _, _, _, _, _, _, _, _, _, _, z⟩ := h
      exact z.elim
    | ok fl =>
      cases fl with
      | next => exact False.elim h
      | brk => exact False.elim h
      | cont => exact False.elim h
      | ret u =>
        obtain ⟨v, H', os, bare, un, hok', r', q⟩ := h
        have q' : v = .bl true := q
        subst q'
        cases r'
        refine ⟨rfl, OldK.of_keep ?_, os, bare⟩
        intro b o e
        by_cases hb : H b = none
        · exact un.keep b o e hb (fun z => absurd (show b ∈ ([] : List Addr) from z) (by simp)) (by simp)
        · rcases only b with z | ⟨ob, xs, z⟩
          · exact absurd z hb
          · have h1 := (hok b _ z).1
            have h2 := (hok' b _ (un.frzs b ob _ z)).1
            rw [e] at h1
            cases h1
            exact h2
  cases hk : K.lookup a with
  | some o =>
    have e := KX a o hk
    rw [ha] at e
    cases e
    refine core (fun _ => none) (fun _ => .inl rfl) (.inr ⟨_, vs.toArray, _, hk, rfl, rfl, rfl, ?_, by simpa using rv⟩) ?_ (fun b z => absurd rfl z) (fun z => absurd rfl z)
    · rw [List.size_toArray, hi.length]
      exact hl
    · intro b u z
      cases (show (none : Option HO) = some u from z)
  | none =>
    refine core (upd (fun _ => none) a (.frz { cls := .type "list", data := .seq vs.toArray } (.lst (ns.map V.int)))) ?_ (.inl (.inr ⟨_, upd_same⟩)) ?_ ?_ fun _ => hk
    · intro b
      by_cases hb : b = a
      · subst hb
        exact .inr ⟨_, _, upd_same⟩
      · exact .inl (upd_ne hb)
    · intro b u z
      by_cases hb : b = a
      · subst hb
        rw [upd_same] at z
        cases z
        exact ⟨ha, by rw [List.length_map]; exact hl, vs, _, rv, ha⟩
      · rw [upd_ne hb] at z
        cases z
    · intro b z
      by_cases hb : b = a
      · exact hb
      · exact absurd (upd_ne hb) z
/-- the row, by the law's def -/
theorem walk_G {l : PySem.W.OpenLaw} {n k : Nat} {q : Program} {loose : List Str} {XP : (Str → Option Value) → Heap → Prop} {YP : World → Heap → Prop} {d : DefRec} {K : Params → PySem.W.Frag} {sp : World → Sp} {x : Str}
    (hn : l.most = some n) (hn2 : n ≤ sizeLine) (hdf : d.params.defaults = []) (hr : Room k callerA)
    (hY : ∀ (w : World) (h : Heap), YP w h → (K w.params).In h)
    (F : ∀ (w : World) (mg : Str → Option Value) (fa : Addr) (h : Heap), (K w.params).In h → h.Ns mainGlobals mg → mg d.name = some (.ref fa) →
      ∃ fd : FuncData, (∀ (s : Shared) (u : Value), BindsTo s fd ⟨[u], []⟩ [(x, u)]) ∧
        ∀ base : Heap, (K w.params).In base → base.Ns mainGlobals mg → FnG l.prog w (K w.params) mg base k fa fd [x] (sp w))
    (hsp : ∀ (w : World) (H : Hp) (a : Addr) (ns : List Int), ns.length ≤ n → (∀ z ∈ ns, Builtin.Int.intBits z ≤ 1048576) → Only H → SqL (K w.params) H a (ns.map V.int) →
      sp w [.ref a] H (fun v _ => v = .bl true) fun _ _ _ => False) :
    PySem.W.WalkO q loose XP YP l.row.toRowW d [] (fun f vs => PySem.call f vs) := by
  refine Att.attach_callB hn hdf ?_
  intro w s₀ s₁ mg mb fa o pm cd doc a vs ns G Y ho hd hcd hmg hobj hints hlen hbits hg
  obtain ⟨fd, hb, hF⟩ := F w mg fa _ (hY w _ Y) G.T.g hmg
  refine law_callG (hY w _ Y) G.T.g G.T.b G.T.builtins G.T.nolimit hg hobj hints (Nat.le_trans hlen hn2) hr hF hb ?_
  exact fun H hO hS => hsp w H a ns hlen hbits hO hS
/-- a law's promise: True, for every script -/
def S_law : Sem := fun ds r _ q => ∃ ns : List Int, ds = [.scr ns] ∧ ns.length ≤ 63 ∧ r = [] ∧ ∀ r', q (.bl true) r'
theorem law_start {K : PySem.W.Frag} {G : Sg} (hK : K = G.K) {H : Hp} {a : Addr} {ns : List Int} (hl : ns.length ≤ 63) (h : SqL K H a (ns.map V.int)) : spS G 1 S_law [.ref a] H (fun v _ => v = .bl true) fun _ _ _ => False := by
  subst hK
  refine ⟨rfl, ⟨H, []⟩, [], [.scr ns], fun _ _ _ => False, fun d _ => d = .bl true, ⟨fun _ _ e => e, rfl, .nil, fun b hb => absurd hb (by simp), fun n a m e => by simp at e⟩, .cons (.scr h) .nil, ⟨ns, rfl, hl, rfl, fun _ => rfl⟩, ?_, fun _ _ _ z => z.elim⟩
  rintro d r' rfl W' v H' s g p
  cases p
  rfl
end Nv

/-! N14: the laws' source of draws. -/
namespace Nv
open PySem PySem.Spec PyProof.Rows L2
/-- the source of draws: the cells; its number. Its handle is .ref 1 -/
def HeapR (cs : List Int) (st : Int) : Rs := [.lst (cs.map D.int), .lst [.ref 0, .int st]]
def IsHeap (r : Rs) : Prop := ∃ cs st, cs.length < 100 ∧ r = HeapR cs st
def S_draw : Sem := fun ds r _ q => ∃ m : Int, ds = [.ref 1, .int m] ∧ IsHeap r ∧ 0 < m ∧ m < 1073741824 ∧ ∀ (j : Int) (r' : Rs), 0 ≤ j → j < m → IsHeap r' → q (.int j) r'
def den_draw : DS :=
    seqS (whS (andT (cmpT neB (opD idxV (varD 0) (cD (.int 0))) (lstD (nilA))) (cmpT eqB (opD idxV (opD idxV (varD 0) (cD (.int 0))) (unD negD (cD (.int 1)))) (cD (.int 0)))) (exS (popR (opD idxV (varD 0) (cD (.int 0))))))
    (seqS (ifS (cmpT neB (opD idxV (varD 0) (cD (.int 0))) (lstD (nilA))) (seqS (setS 2 (popR (opD idxV (varD 0) (cD (.int 0)))))
    (seqS (exS (apR (opD idxV (varD 0) (cD (.int 0))) (opD fdivD (varD 2) (varD 1))))
    (retS (opD modD (bltD intF (consA (varD 2) nilA)) (varD 1))))) (skipS))
    (seqS (putR (varD 0) (cD (.int 1)) (opD modD (bltD intF (consA (opD addD (opD mulD (opD idxV (varD 0) (cD (.int 1))) (cD (.int 48271))) (cD (.int 17))) nilA)) (cD (.int 2147483647))))
    (retS (opD modD (bltD intF (consA (opD fdivD (opD idxV (varD 0) (cD (.int 1))) (cD (.int 32))) nilA)) (varD 1)))))

theorem pyAll_ints : ∀ xs : List Int, D.pyAll (xs.map D.int) = some (xs.map PyData.int)
  | [] => rfl
  | x :: xs => by simp only [List.map_cons, D.pyAll, D.py, pyAll_ints xs]
theorem lay_ints : ∀ xs : List Int, PyData.canLayAll0 (xs.map PyData.int) = true
  | [] => by simp only [List.map_nil, PyData.canLayAll0]
  | x :: xs => by simp only [List.map_cons, PyData.canLayAll0, PyData.canLay0, lay_ints xs, Bool.and_self]
theorem depth_ints : ∀ xs : List Int, PyData.depthAll (xs.map PyData.int) = 0
  | [] => by simp only [List.map_nil, PyData.depthAll]
  | x :: xs => by simp only [List.map_cons, PyData.depthAll, PyData.depth, depth_ints xs, Nat.max_self]
theorem shaped_ints (xs : List Int) : SeqAt.shaped (.list (xs.map PyData.int)) = true := by
  unfold SeqAt.shaped
  rw [Bool.and_eq_true, decide_eq_true_eq]
  refine ⟨?_, ?_⟩
  · simp only [PyData.canLay0]; exact lay_ints xs
  · simp only [PyData.depth, depth_ints xs]; decide
theorem eqvAll_ints : ∀ xs ys : List Int, PyData.eqvAll (xs.map PyData.int) (ys.map PyData.int) = decide (xs = ys)
  | [], [] => by simp [PyData.eqvAll]
  | [], _ :: _ => by simp [PyData.eqvAll]
  | _ :: _, [] => by simp [PyData.eqvAll]
  | x :: xs, y :: ys => by simp [PyData.eqvAll, PyData.eqv, eqvAll_ints xs ys, Bool.beq_eq_decide_eq]
@[simp] theorem eqD_ints (xs ys : List Int) : eqD (.lst (xs.map .int)) (.lst (ys.map .int)) = some (decide (xs = ys)) := by
  show eqP _ _ = _
  unfold eqP
  rw [pyAll_lst (pyAll_ints xs), pyAll_lst (pyAll_ints ys)]
  simp only [shaped_ints, Bool.and_self, if_true, PyData.eqv, eqvAll_ints]
@[simp] theorem eqD_int (i j : Int) : eqD (.int i) (.int j) = some (decide (i = j)) := rfl
@[simp] theorem eqB_str (i j : Str) : eqB (.str i) (.str j) = some (decide (i = j)) := rfl
@[simp] theorem neB_str (i j : Str) : neB (.str i) (.str j) = some (!decide (i = j)) := rfl
theorem neB_ints (xs ys : List Int) : neB (.lst (xs.map .int)) (.lst (ys.map .int)) = some (!decide (xs = ys)) := by
  unfold neB; rw [eqD_ints]; rfl
@[simp] theorem neB_ints0 (xs : List Int) : neB (.lst (xs.map .int)) (.lst []) = some (!decide (xs = [])) := neB_ints xs []
@[simp] theorem eqB_int (i j : Int) : eqB (.int i) (.int j) = some (decide (i = j)) := eqD_int i j
@[simp] theorem atI_last {α : Type} (xs : List α) (x : α) : L2.atI (xs ++ [x]) (-1) = some x := by
  rw [atI_get]
  refine ⟨xs.length, ?_, by simp⟩
  unfold ixN
  rw [if_neg (by omega), if_pos (by simp; omega)]
  congr 1
  simp
  omega
@[simp] theorem atI_0 {α : Type} (x : α) (xs : List α) : L2.atI (x :: xs) 0 = some x := by
  rw [atI_get]
  exact ⟨0, by simp [ixN], rfl⟩
@[simp] theorem atI_1 {α : Type} (x y : α) (xs : List α) : L2.atI (x :: y :: xs) 1 = some y := by
  rw [atI_get]
  exact ⟨1, by simp [ixN]; omega, rfl⟩
@[simp] theorem neB_int (i j : Int) : neB (.int i) (.int j) = some (!decide (i = j)) := by unfold neB; rw [eqD_int]; rfl
@[simp] theorem neB_nil : neB (.lst []) (.lst []) = some false := by have := neB_ints [] []; simpa using this
@[simp] theorem neB_snoc (xs : List Int) (c : Int) : neB (.lst (xs.map .int ++ [.int c])) (.lst []) = some true := by
  have := neB_ints (xs ++ [c]) []; simpa using this
@[simp] theorem ixN_21 : ixN 2 1 = some 1 := rfl
theorem snoc_cases {α : Type} (xs : List α) : xs = [] ∨ ∃ ys y, xs = ys ++ [y] := by
  cases h : xs.getLast? with
  | none => exact .inl (List.getLast?_eq_none_iff.1 h)
  | some y => obtain ⟨ys, e⟩ := List.getLast?_eq_some_iff.1 h; exact .inr ⟨ys, y, e⟩
theorem loop_draw {n : Nat} {t : DT} {k : Kt} (ht : t = andT (cmpT neB (opD idxV (varD 0) (cD (.int 0))) (lstD (nilA))) (cmpT eqB (opD idxV (opD idxV (varD 0) (cD (.int 0))) (unD negD (cD (.int 1)))) (cD (.int 0))))
    (st m : Int) (s : Sl) (h : ∀ cs, cs.length < 100 → k.nx [.val (.ref 1), .val (.int m), s] (HeapR cs st)) : ∀ cs : List Int, cs.length < n → cs.length < 100 → whW t (exS (popR (opD idxV (varD 0) (cD (.int 0))))) k n [.val (.ref 1), .val (.int m), s] (HeapR cs st) := by
  subst ht
  induction n with
  | zero => intro cs h; omega
  | succ n ih =>
    intro cs hl hb
    unfold whW
    rcases snoc_cases cs with rfl | ⟨ys, y, rfl⟩
    · have := h [] (by simp)
      simpa [HeapR] using this
    · have h1 := h (ys ++ [y]) hb
      have h2 := ih ys (by simpa using hl) (by simp at hb; omega)
      by_cases hy : y = 0
      · subst hy
        simpa [HeapR] using h2
      · simpa [HeapR, hy] using h1
theorem sem_draw (ds : List D) (r : Rs) (x : Nat → List D → Rs → Prop) (q : D → Rs → Prop) (hl : ds.length = 2) (h : S_draw ds r x q) : den_draw (startE 3 ds) r (ktOf q x) := by
  obtain ⟨m, rfl, ⟨cs, st, hb, rfl⟩, h0, h1, hq⟩ := h
  have e0 : startE 3 [.ref 1, .int m] = [.val (.ref 1), .val (.int m), .un] := rfl
  rw [e0]
  refine ⟨cs.length + 1, loop_draw rfl st m .un ?_ cs (by omega) hb⟩
  intro cs hb
  rcases snoc_cases cs with rfl | ⟨ys, y, rfl⟩
  · have := fun (st st' : Int) => hq (st % m) (HeapR [] st') (Int.emod_nonneg _ (by omega)) (Int.emod_lt_of_pos _ h0) ⟨[], st', by simp, rfl⟩
    simp [HeapR, ktOf, h0, h1] at this ⊢
    apply this
  · have hh := fun (d : Int) => hq (y % m) (HeapR (ys ++ [d]) st) (Int.emod_nonneg _ (by omega)) (Int.emod_lt_of_pos _ h0) ⟨_, _, by simpa using hb, rfl⟩
    simp [HeapR, ktOf, h0, h1] at hh ⊢
    have hs : sizeLine = 16777216 := rfl
    have : ys.length < sizeLine := by rw [hs]; simp at hb; omega
    exact ⟨this, hh _⟩
/-! loops -/
theorem compW_fm {tg : DG} {t : DT} {elt : DE} {env0 : En} {q : List D → Rs → Prop} {r : Rs} (f : D → Option D) : ∀ (ds acc : List D), acc.length + ds.length ≤ sizeLine →
    (∀ d ∈ ds, ∀ (Qn : Rs → Prop) (Qy : D → Rs → Prop), (match f d with | some y => Qy y r | none => Qn r) → tg d env0 fun env => t env r (fun _ _ _ _ => False) fun c r1 => if c then elt env r1 (fun _ _ _ _ => False) Qy else Qn r1) →
    q (acc ++ ds.filterMap f) r → compW tg t elt env0 q ds acc r
  | [], acc, _, _, h => by simpa using h
  | d :: ds, acc, hl, hs, h => by
    have hl' : acc.length + ds.length + 1 ≤ sizeLine := by simp at hl; omega
    unfold compW
    refine hs d (.head _) _ _ ?_
    cases e : f d with
    | none =>
      refine compW_fm f ds acc (by omega) (fun d hd => hs d (.tail _ hd)) ?_
      simpa [List.filterMap_cons, e] using h
    | some y =>
      refine ⟨by omega, compW_fm f ds (acc ++ [y]) (by simp; omega) (fun d hd => hs d (.tail _ hd)) ?_⟩
      simpa [List.filterMap_cons, e] using h
theorem forW_inv {tg : DG} {b : DS} {k : Kt} (Inv : En → Rs → Prop) : ∀ (ds : List D),
    (∀ d ∈ ds, ∀ env r (K : En → Rs → Prop), Inv env r → (∀ env r, Inv env r → K env r) → tg d env fun env => b env r { k with nx := K, ct := K, bk := k.nx }) →
    (∀ env r, Inv env r → k.nx env r) → ∀ env r, Inv env r → forW tg b k ds env r
  | [], _, he, env, r, hi => he env r hi
  | d :: ds, hs, he, env, r, hi => by
    unfold forW
    exact hs d (.head _) env r _ hi (forW_inv Inv ds (fun d hd => hs d (.tail _ hd)) he)
def S_heap : Sem := fun ds r _ q => ∃ ns : List Int, ds = [.scr ns] ∧ ns.length < 1000 ∧ r = [] ∧ ∀ r', IsHeap r' → q (.ref 1) r'
def den_heap : DS :=
    seqS (mparS [1, 2] [(false, compD (seqI (slcD (varD 0) (noO) (someO (cD (.int 60))))) (nmG 3) (yesT) (opD addD (opD mulD (cD (.int 2)) (bltD absF (consA (varD 3) nilA))) (bltD intF (consA (opD (cmpV ltB) (varD 3) (cD (.int 0))) nilA))) [3]), (false, cD (.int 60013))])
    (seqS (forS (seqI (varD 1)) (nmG 3) (setS 2 (opD modD (bltD intF (consA (opD addD (opD addD (opD mulD (varD 2) (cD (.int 69621))) (opD modD (bltD intF (consA (varD 3) nilA)) (cD (.int 2147483563)))) (cD (.int 29))) nilA)) (cD (.int 2147483647)))))
    (retS (shD (lstD (consA (shD (revD (compD (seqI (varD 1)) (nmG 3) (cmpT geB (varD 3) (opD powD (cD (.int 10)) (cD (.int 18)))) (varD 3) [3]))) (consA (varD 2) nilA))))))
theorem cutD_le (xs : List D) (hi : Nat) : (cutD xs none (some (hi : Int))).length ≤ hi := by
  unfold cutD
  have : ¬ ((hi : Int) < 0) := by omega
  simp [HT.sIx, this]
  omega
theorem cutD_mem {xs : List D} {lo hi : Option Int} {d : D} (h : d ∈ cutD xs lo hi) : d ∈ xs := List.mem_of_mem_drop (List.mem_of_mem_take h)
theorem sem_heap (ds : List D) (r : Rs) (x : Nat → List D → Rs → Prop) (q : D → Rs → Prop) (hl : ds.length = 1) (h : S_heap ds r x q) : den_heap (startE 4 ds) r (ktOf q x) := by
  obtain ⟨ns, rfl, hb, rfl, hq⟩ := h
  have e0 : startE 4 [.scr ns] = [.val (.scr ns), .un, .un, .un] := rfl
  have hs : sizeLine = 16777216 := rfl
  rw [e0]
  unfold den_heap
  simp only [seqS, mparS, mixW, compD, seqI, slcD, varD, noO, someO, cD, deref, slcV, Th, wipeE, List.getElem?_cons_zero, List.set_cons_zero, List.set_cons_succ]
  have h60 := cutD_le (ns.map D.int) 60
  refine compW_fm (fun d => match d with | .int i => some (.int (2 * (if i < 0 then -i else i) + if i < 0 then 1 else 0)) | _ => none) _ _ ?_ ?_ ?_
  · simp only [List.length_nil, Nat.zero_add]; rw [hs]; exact Nat.le_trans h60 (by decide)
  · intro d hd Qn Qy hh
    obtain ⟨i, -, rfl⟩ := List.mem_map.1 (cutD_mem hd)
    simpa using hh
  have hc : ∃ cs : List Int, cs.length ≤ 60 ∧ (cutD (ns.map D.int) none (some 60)).filterMap (fun d => match d with | .int i => some (D.int (2 * (if i < 0 then -i else i) + if i < 0 then 1 else 0)) | _ => none) = cs.map D.int := by
    have key : ∀ xs : List D, (∀ d ∈ xs, ∃ i, d = D.int i) → ∃ cs : List Int, cs.length ≤ xs.length ∧ xs.filterMap (fun d => match d with | .int i => some (D.int (2 * (if i < 0 then -i else i) + if i < 0 then 1 else 0)) | _ => none) = cs.map D.int := by
      intro xs
      induction xs with
      | nil => intro _; exact ⟨[], by simp, rfl⟩
      | cons d ds ih =>
        intro h
        obtain ⟨i, rfl⟩ := h _ (.head _)
        obtain ⟨cs, hl, e⟩ := ih fun d hd => h d (.tail _ hd)
        refine ⟨(2 * (if i < 0 then -i else i) + if i < 0 then 1 else 0) :: cs, by simpa using hl, ?_⟩
        rw [List.filterMap_cons, e]
        rfl
    obtain ⟨cs, hl, e⟩ := key (cutD (ns.map D.int) none (some 60)) fun d hd => by obtain ⟨i, -, rfl⟩ := List.mem_map.1 (cutD_mem hd); exact ⟨i, rfl⟩
    exact ⟨cs, Nat.le_trans hl h60, e⟩
  obtain ⟨cs, hcl, ec⟩ := hc
  rw [ec]
  simp
  refine forW_inv (fun env r => ∃ st d, env = [.val (.scr ns), .val (.lst (cs.map D.int)), .val (.int st), d] ∧ r = []) _ ?_ ?_ _ _ ⟨60013, .un, rfl, rfl⟩
  · rintro d hd env r K ⟨st, d3, rfl, rfl⟩ hk
    obtain ⟨i, -, rfl⟩ := List.mem_map.1 hd
    simp
    exact hk _ _ ⟨_, _, rfl, rfl⟩
  · rintro env r ⟨st, d3, rfl, rfl⟩
    simp
    refine compW_fm (fun d => match d with | .int i => if 10 ^ 18 ≤ i then some (.int i) else none | _ => none) _ _ ?_ ?_ ?_
    · simp; omega
    · intro d hd Qn Qy hh
      obtain ⟨i, -, rfl⟩ := List.mem_map.1 hd
      by_cases hi : (1000000000000000000 : Int) ≤ i
      · simp [hi] at hh
        simpa [hi] using hh
      · simp [hi] at hh
        simpa [hi] using hh
    · have key : ∀ xs : List Int, (xs.map D.int).filterMap (fun d => match d with | .int i => if 10 ^ 18 ≤ i then some (D.int i) else none | _ => none) = (xs.filter fun i => 10 ^ 18 ≤ i).map D.int := by
        intro xs
        induction xs with
        | nil => rfl
        | cons i xs ih =>
          rw [List.map_cons, List.filterMap_cons, ih, List.filter_cons]
          by_cases hi : (1000000000000000000 : Int) ≤ i
          · simp [hi]
          · simp [hi]
      rw [List.nil_append, key]
      refine ⟨by rw [hs]; decide, ?_⟩
      have hh : IsHeap (HeapR (cs.filter fun i => 10 ^ 18 ≤ i).reverse st) := ⟨_, _, ?_, rfl⟩
      · have := hq _ hh
        simpa [HeapR, ktOf] using this
      · have := List.length_filter_le (fun i => decide ((10:Int) ^ 18 ≤ i)) cs
        simp at this ⊢
        omega
end Nv

/-! N15: a program's defs, put together. -/
namespace Nv
open PySem PySem.Spec PyProof.Rows L2
/-- a def under its name, with its promise -/
def Cl (P : Program) (w : World) (K : PySem.W.Frag) (mg : Str → Option Value) (base : Heap) (G : Sg) (kws : List (Str × Nat × List Str)) (k : Nat) (nm : Str) (ps : List Str) (S : Sem) : Prop :=
  ∃ f fd, mg nm = some (.ref f) ∧ PySem.W.keepIn K (.ref f) = true ∧ Binds K fd ps [] ∧ FnG P w K mg base k f fd ps (spS G ps.length S) ∧ ∀ j ks, kws.contains (nm, j, ks) = true → KwOk K fd ps j ks
def AllC {α : Type} (Q : α → Prop) : List α → Prop
  | [] => True
  | x :: xs => Q x ∧ AllC Q xs
theorem AllC.all {α : Type} {Q : α → Prop} : ∀ {xs : List α}, AllC Q xs → ∀ x ∈ xs, Q x
  | x :: xs, h, y, hy => by
    rcases List.mem_cons.1 hy with rfl | hy
    · exact h.1
    · exact AllC.all h.2 y hy
theorem lookup_mem {α : Type} {n : Str} {v : α} : ∀ {xs : List (Str × α)}, xs.lookup n = some v → (n, v) ∈ xs
  | (m, u) :: xs, h => by
    rw [List.lookup_cons] at h
    split at h
    · rename_i e
      cases h
      have := eq_of_beq e
      subst this
      exact .head _
    · exact .tail _ (lookup_mem h)
variable {P : Program} {w : World} {K : PySem.W.Frag} {mg : Str → Option Value} {base : Heap} {G : Sg} {kws : List (Str × Nat × List Str)} {k : Nat}
theorem Cl.up {j : Nat} {nm : Str} {ps : List Str} {S : Sem} (c : Cl P w K mg base G kws j nm ps S) (h : j ≤ k) : Cl P w K mg base G kws k nm ps S := by
  obtain ⟨f, fd, a, b, c, d, e⟩ := c
  exact ⟨f, fd, a, b, c, d.mono h, e⟩
theorem lk_mk {T : Tx} (h1 : AllC (fun p : Str × List Str × Sem => Cl P w K mg base G T.kws k p.1 p.2.1 p.2.2) T.fns) (h2 : AllC (fun p : Str × D => ∃ u v, mg p.1 = some u ∧ RelV v u ∧ ∀ W, Dp G W v p.2) T.cs) (h3 : AllC (fun n => mg n = none) T.bl) : Lk P w K mg base G T k :=
  ⟨fun n ps S e => h1.all _ (lookup_mem e), fun n d e => h2.all _ (lookup_mem e), fun n e => h3.all n (List.contains_iff_mem.1 e)⟩
theorem kwok_mk {fd : FuncData} {ps : List Str} {j : Nat} {ks : List Str} (h : ∀ us ws : List Value, us.length = j → ws.length = ks.length → bindArgs fd ⟨us, ks.zip ws⟩ = pure (ps.zip (kwPut ps ks us ws)) ∧ (kwPut ps ks us ws).length = ps.length) : KwOk K fd ps j ks :=
  fun s us ws _ hu hw => ⟨.of_eq (h us ws hu hw).1, (h us ws hu hw).2⟩
theorem cl_mk {nm : Str} {st : Stmt} {f : Addr} {fd : FuncData} {ps : List Str} {S : Sem} (a : mg nm = some (.ref f)) (F : Fun K nm nm st f fd) (b : Binds K fd ps []) (g : FnG P w K mg base k f fd ps (spS G ps.length S))
    (h : AllC (fun q : Str × Nat × List Str => (q.1 == nm) = true → KwOk K fd ps q.2.1 q.2.2) kws) : Cl P w K mg base G kws k nm ps S :=
  ⟨f, fd, a, F.kp, b, g, fun j ks e => h.all _ (List.contains_iff_mem.1 e) (by simp)⟩
end Nv

/-! the marks of a text, in plain lists. -/
namespace K05
open PySem PySem.Spec PyProof.Rows L2 Nv

abbrev tx (l : List Nat) : Str := ⟨l.toArray⟩
def isL (c : Nat) : Bool := decide (97 ≤ c ∧ c ≤ 122)
def isD (c : Nat) : Bool := decide (48 ≤ c ∧ c ≤ 57)
def kd (c : Nat) : Nat := if isL c then 1 else if isD c then 2 else 0
/-- the two signs stand in one mark -/
def same (c d : Nat) : Bool := decide (0 < kd c) && decide (kd d = kd c)
theorem dropW_len (p : Nat → Bool) (l : List Nat) : (l.dropWhile p).length ≤ l.length := by
  have h := congrArg List.length (List.takeWhile_append_dropWhile (p := p) (l := l))
  rw [List.length_append] at h; omega
/-- a text cut into its marks, blanks too -/
def runs : List Nat → List (List Nat)
  | [] => []
  | c :: cs => (c :: cs.takeWhile (same c)) :: runs (cs.dropWhile (same c))
  termination_by l => l.length
  decreasing_by have := dropW_len (same c) cs; simp only [List.length_cons]; omega
def place : Nat → Nat → List (List Nat) → List (Nat × Nat × List Nat)
  | _, _, [] => []
  | l, c, m :: ms => (if m = [32] then [] else [(l, c, m)]) ++ (if m = [10] then place (l + 1) 0 ms else place l (c + m.length) ms)
/-- one mark: its first sign and signs of the same kind -/
def Atom (m : List Nat) : Prop := ∃ c w, m = c :: w ∧ ∀ d ∈ w, same c d = true
theorem takeW_all {p : Nat → Bool} : ∀ l : List Nat, ∀ d ∈ l.takeWhile p, p d = true
  | [], _, h => nomatch h
  | c :: cs, d, h => by
    rw [List.takeWhile_cons] at h
    split at h
    · rename_i hc
      rcases List.mem_cons.1 h with rfl | h
      · exact hc
      · exact takeW_all cs d h
    · cases h
theorem runs_flat : ∀ t : List Nat, (runs t).flatten = t
  | [] => by rw [runs]; rfl
  | c :: cs => by
    rw [runs, List.flatten_cons, runs_flat (cs.dropWhile (same c)), List.cons_append, List.takeWhile_append_dropWhile]
  termination_by l => l.length
  decreasing_by have := dropW_len (same c) cs; simp only [List.length_cons]; omega
theorem runs_atom : ∀ t : List Nat, ∀ m ∈ runs t, Atom m
  | [], m, h => by rw [runs] at h; cases h
  | c :: cs, m, h => by
    rw [runs] at h
    rcases List.mem_cons.1 h with rfl | h
    · exact ⟨c, _, rfl, takeW_all cs⟩
    · exact runs_atom (cs.dropWhile (same c)) m h
  termination_by l => l.length
  decreasing_by have := dropW_len (same c) cs; simp only [List.length_cons]; omega
theorem kd10 : kd 10 = 0 := by decide
theorem kd32 : kd 32 = 0 := by decide
theorem same_32 (c : Nat) : same c 32 = false := by
  unfold same
  rw [kd32]
  cases h : kd c with
  | zero => rfl
  | succ n => simp
theorem run_sep {m : List Nat} (h : Atom m) (rest : List Nat) : runs (m ++ 32 :: rest) = m :: [32] :: runs rest := by
  obtain ⟨c, w, rfl, hw⟩ := h
  have e1 : (w ++ 32 :: rest).takeWhile (same c) = w := by
    rw [List.takeWhile_append_of_pos hw, List.takeWhile_cons, same_32]; simp
  have e2 : (w ++ 32 :: rest).dropWhile (same c) = 32 :: rest := by
    rw [List.dropWhile_append_of_pos hw, List.dropWhile_cons, same_32]; simp
  have s32 : ∀ d, same 32 d = false := fun d => by unfold same; rw [kd32]; rfl
  have e3 : rest.takeWhile (same 32) = [] := by cases rest with
    | nil => rfl
    | cons d r => rw [List.takeWhile_cons, s32]; rfl
  have e4 : rest.dropWhile (same 32) = rest := by cases rest with
    | nil => rfl
    | cons d r => rw [List.dropWhile_cons, s32]; rfl
  rw [List.cons_append, runs, e1, e2, runs, e3, e4]
theorem run_one {m : List Nat} (h : Atom m) : runs m = [m] := by
  obtain ⟨c, w, rfl, hw⟩ := h
  have e1 : w.takeWhile (same c) = w := by
    have := List.takeWhile_append_of_pos (p := same c) (l₁ := w) (l₂ := []) hw; simpa using this
  have e2 : w.dropWhile (same c) = [] := by
    have := List.dropWhile_append_of_pos (p := same c) (l₁ := w) (l₂ := []) hw; simpa using this
  rw [runs, e1, e2, runs]
def joinSp : List (List Nat) → List Nat
  | [] => []
  | [m] => m
  | m :: n :: ms => m ++ 32 :: joinSp (n :: ms)
theorem runs_join : ∀ ms : List (List Nat), (∀ m ∈ ms, Atom m) → (∀ m ∈ ms, m ≠ [32]) → (runs (joinSp ms)).filter (· ≠ [32]) = ms
  | [], _, _ => by rw [joinSp, runs]; rfl
  | [m], h, h2 => by rw [joinSp, run_one (h m (.head _))]; simp [h2 m (.head _)]
  | m :: n :: ms, h, h2 => by
    rw [joinSp, run_sep (h m (.head _))]
    have := runs_join (n :: ms) (fun m hm => h m (.tail _ hm)) (fun m hm => h2 m (.tail _ hm))
    rw [List.filter_cons, if_pos (by simpa using h2 m (.head _)), List.filter_cons, if_neg (by simp), this]
theorem place_third : ∀ (ms : List (List Nat)) (l c : Nat), (place l c ms).map (·.2.2) = ms.filter (· ≠ [32])
  | [], _, _ => rfl
  | m :: ms, l, c => by
    rw [place, List.map_append, List.filter_cons]
    have e : (if m = [10] then place (l + 1) 0 ms else place l (c + m.length) ms).map (·.2.2) = ms.filter (· ≠ [32]) := by
      split <;> exact place_third ms _ _
    rw [e]
    by_cases h : m = [32] <;> simp [h]

/-! ### sign by sign -/
abbrev M4 := Nat × Nat × List Nat × Nat
abbrev St := List M4 × Nat × Nat
def step (s : St) (c : Nat) : St :=
  let (f, l, a) := s
  let f' := match f.getLast? with
    | some (l', c', m', k') => if 0 < kd c ∧ k' = kd c ∧ l' = l ∧ c' + m'.length = a then f.dropLast ++ [(l', c', m' ++ [c], kd c)] else if c ≠ 32 then f ++ [(l, a, [c], kd c)] else f
    | none => if c ≠ 32 then f ++ [(l, a, [c], kd c)] else f
  if c = 10 then (f', l + 1, 0) else (f', l, a + 1)
def ofM (p : Nat × Nat × List Nat) : M4 := (p.1, p.2.1, p.2.2, kd (p.2.2.headD 0))
/-- no sign of kind k is put to the last mark -/
def Stop (k : Nat) (f : List M4) (l a : Nat) : Prop := ∀ l' c' m' k', f.getLast? = some (l', c', m', k') → ¬ (0 < k ∧ k' = k ∧ l' = l ∧ c' + m'.length = a)
theorem step_new {f : List M4} {l a c : Nat} (h : Stop (kd c) f l a) : step (f, l, a) c = if c = 10 then (if c ≠ 32 then f ++ [(l, a, [c], kd c)] else f, l + 1, 0) else (if c ≠ 32 then f ++ [(l, a, [c], kd c)] else f, l, a + 1) := by
  unfold step
  cases e : f.getLast? with
  | none => simp only [e]
  | some p =>
    obtain ⟨l', c', m', k'⟩ := p
    simp only [e, if_neg (h l' c' m' k' e)]
theorem step_more {f : List M4} {l c a d : Nat} {m : List Nat} (hk : 0 < kd d) (ha : c + m.length = a) : step (f ++ [(l, c, m, kd d)], l, a) d = (f ++ [(l, c, m ++ [d], kd d)], l, a + 1) := by
  have h10 : d ≠ 10 := fun e => by subst e; rw [kd10] at hk; omega
  unfold step
  simp [hk, ha, h10]
theorem fold_run {d0 : Nat} (hk : 0 < kd d0) : ∀ (w : List Nat) (f : List M4) (l c a : Nat) (m : List Nat), c + m.length = a → (∀ d ∈ w, kd d = kd d0) →
    w.foldl step (f ++ [(l, c, m, kd d0)], l, a) = (f ++ [(l, c, m ++ w, kd d0)], l, a + w.length)
  | [], f, l, c, a, m, _, _ => by simp
  | d :: w, f, l, c, a, m, ha, hw => by
    have hd := hw d (.head _)
    rw [List.foldl_cons, ← hd, step_more (by omega) ha, hd, fold_run hk w f l c (a + 1) (m ++ [d]) (by simp; omega) fun d h => hw d (.tail _ h)]
    simp; omega
def Bd (f : List M4) (l a : Nat) : Prop := ∀ l' c' m' k', f.getLast? = some (l', c', m', k') → l' = l → c' + m'.length ≤ a
theorem head_drop {p : Nat → Bool} {l : List Nat} {d : Nat} (h : d ∈ (l.dropWhile p).head?) : p d = false := by
  have := List.head?_dropWhile_not p l
  rw [Option.mem_def.1 h] at this
  simpa using this
theorem fold_all : ∀ (t : List Nat) (f : List M4) (l a : Nat), (∀ c ∈ t.head?, Stop (kd c) f l a) → Bd f l a →
    (t.foldl step (f, l, a)).1 = f ++ (place l a (runs t)).map ofM
  | [], f, l, a, _, _ => by rw [runs]; simp [place]
  | c :: cs, f, l, a, h, hb => by
    have hs := h c rfl
    have ih := fold_all (cs.dropWhile (same c))
    rw [runs, place, List.foldl_cons, step_new hs]
    conv => lhs; rw [← List.takeWhile_append_dropWhile (p := same c) (l := cs)]
    rw [List.foldl_append]
    by_cases hk : kd c = 0
    · have e1 : cs.takeWhile (same c) = [] := by
        cases cs with
        | nil => rfl
        | cons d r => rw [List.takeWhile_cons]; simp [same, hk]
      rw [e1]
      by_cases h10 : c = 10
      · subst h10
        simp only [if_true]
        rw [List.foldl_nil, ih]
        · simp [ofM]
        · intro d _ l' c' m' k' hg
          simp at hg
          obtain ⟨rfl, rfl, rfl, rfl⟩ := hg
          rw [kd10]; omega
        · intro l' c' m' k' hg
          simp at hg
          obtain ⟨rfl, rfl, rfl, rfl⟩ := hg
          omega
      · by_cases h32 : c = 32
        · subst h32
          simp
          rw [ih]
          · intro d _ l' c' m' k' hg hh
            have := hb l' c' m' k' hg hh.2.2.1
            omega
          · intro l' c' m' k' hg hl
            have := hb l' c' m' k' hg hl
            omega
        · simp [h10, h32]
          rw [ih]
          · simp [ofM, h10]
          · intro d _ l' c' m' k' hg
            simp at hg
            obtain ⟨rfl, rfl, rfl, rfl⟩ := hg
            rw [hk]; omega
          · intro l' c' m' k' hg
            simp at hg
            obtain ⟨rfl, rfl, rfl, rfl⟩ := hg
            simp
    · have hk0 : 0 < kd c := by omega
      have h10 : c ≠ 10 := fun e => by subst e; exact hk kd10
      have h32 : c ≠ 32 := fun e => by subst e; exact hk kd32
      simp only [if_neg h10, if_pos h32]
      rw [fold_run hk0 _ f l a (a + 1) [c] (by simp) fun d hd => by
        have := takeW_all (p := same c) cs d hd
        unfold same at this
        simp at this; exact this.2]
      rw [ih]
      · have e9 : a + 1 + (cs.takeWhile (same c)).length = a + (c :: cs.takeWhile (same c)).length := by simp; omega
        rw [e9]
        simp [ofM, h10, h32]
      · intro d hd l' c' m' k' hg
        simp at hg
        obtain ⟨rfl, rfl, rfl, rfl⟩ := hg
        have hn : same c d = false := head_drop hd
        rintro ⟨_, e, _⟩
        unfold same at hn
        rw [← e] at hn
        simp [hk0] at hn
      · intro l' c' m' k' hg
        simp at hg
        obtain ⟨rfl, rfl, rfl, rfl⟩ := hg
        simp; omega
  termination_by t => t.length
  decreasing_by have := dropW_len (same c) cs; simp only [List.length_cons]; omega
/-- the two ways agree -/
theorem fold_runs (t : List Nat) : (t.foldl step ([], 0, 0)).1.map (fun p => (p.1, p.2.1, p.2.2.1)) = place 0 0 (runs t) := by
  rw [fold_all t [] 0 0 (fun c _ l' c' m' k' h => by cases h) (fun l' c' m' k' h => by cases h)]
  simp [ofM, Function.comp_def]
end K05

/-! what each def of k05 promises, over its denotation. -/
namespace K05
open PySem PySem.Spec PyProof.Rows L2 Nv
def k_LETTERS : D := .str "abcdefghijklmnopqrstuvwxyz"
def k_DIGITS : D := .str "0123456789"
def mk3 (p : Nat × Nat × List Nat) : D := .tup [.int p.1, .int p.2.1, .str (tx p.2.2)]
def mk4 (p : M4) : D := .tup [.int p.1, .int p.2.1, .str (tx p.2.2.1), .int p.2.2.2]
def okT (t : List Nat) : Prop := t.length ≤ 10000 ∧ ∀ c ∈ t, c < 0x110000
def marksD (t : List Nat) : List D := (place 0 0 (runs t)).map mk3
def markOf : List Nat → List Nat
  | [] => []
  | c :: cs => c :: cs.takeWhile (same c)
def S_run_end : Sem := fun ds r _ q => ∃ (t : List Nat) (k : Nat) (g : List Nat), ds = [.str (tx t), .int k, .str (tx g)] ∧ k ≤ t.length ∧ t.length ≤ sizeLine ∧ q (.int (k + ((t.drop k).takeWhile fun c => decide (c ∈ g)).length : Nat)) r
def S_mark_at : Sem := fun ds r _ q => ∃ (t : List Nat) (k : Nat), ds = [.str (tx t), .int k] ∧ k < t.length ∧ t.length ≤ sizeLine ∧ q (.str (tx (markOf (t.drop k)))) r
def S_marks_of : Sem := fun ds r _ q => ∃ t : List Nat, ds = [.str (tx t)] ∧ t.length < sizeLine ∧ q (.tup (marksD t)) r
def S__law_heap : Sem := S_heap
def S__law_draw : Sem := S_draw
def S__law_pick : Sem := fun ds r _ q => ∃ xs : List D, ds = [.ref 1, .lst xs] ∧ xs ≠ [] ∧ xs.length < 1000 ∧ IsHeap r ∧ ∀ y ∈ xs, ∀ r', IsHeap r' → q y r'
def S__law_kind : Sem := fun ds r _ q => ∃ c : Nat, ds = [.str ⟨#[c]⟩] ∧ q (.int (kd c)) r
def S__law_marks : Sem := fun ds r _ q => ∃ t : List Nat, ds = [.str (tx t)] ∧ okT t ∧ q (.lst (marksD t)) r
def S__law_piece : Sem := fun ds r _ q => ds = [.ref 1] ∧ IsHeap r ∧ ∀ t : List Nat, t.length ≤ 40 → (∀ c ∈ t, c < 0x110000) → ∀ r', IsHeap r' → q (.str (tx t)) r'
def den_run_end : DS :=
    seqS (whS (andT (cmpT ltB (varD 1) (bltD lenF (consA (varD 0) nilA))) (cmpT inB (opD idxV (varD 0) (varD 1)) (varD 2))) (setS 1 (opD addD (varD 1) (cD (.int 1)))))
    (retS (varD 1))
def den_mark_at : DS :=
    seqS (ifS (cmpT inB (opD idxV (varD 0) (varD 1)) (cD k_LETTERS)) (retS (slcD (varD 0) (someO (varD 1)) (someO (callD S_run_end (consA (varD 0) (consA (varD 1) (consA (cD k_LETTERS) nilA))))))) (skipS))
    (retS (ifD (cmpT inB (opD idxV (varD 0) (varD 1)) (cD k_DIGITS)) (slcD (varD 0) (someO (varD 1)) (someO (callD S_run_end (consA (varD 0) (consA (varD 1) (consA (cD k_DIGITS) nilA)))))) (opD idxV (varD 0) (varD 1))))
def den_marks_of : DS :=
    seqS (mparS [1, 2, 3, 4] [(true, lstD (nilA)), (false, cD (.int 0)), (false, cD (.int 0)), (false, cD (.int 0))])
    (seqS (whS (cmpT ltB (varD 4) (bltD lenF (consA (varD 0) nilA))) (seqS (setS 5 (callD S_mark_at (consA (varD 0) (consA (varD 4) nilA))))
    (seqS (ifS (cmpT neB (varD 5) (cD (.str " "))) (appS 1 (tupD (consA (varD 2) (consA (opD subD (varD 4) (varD 3)) (consA (varD 5) nilA))))) (skipS))
    (seqS (setS 4 (opD addD (varD 4) (bltD lenF (consA (varD 5) nilA))))
    (ifS (cmpT eqB (varD 5) (cD (.str "\n"))) (mparS [2, 3] [(false, opD addD (varD 2) (cD (.int 1))), (false, varD 4)]) (skipS))))))
    (retS (bltD tupF (consA (peekD 1) nilA))))
def den__law_pick : DS :=
    retS (opD idxV (varD 1) (callD S__law_draw (consA (varD 0) (consA (bltD lenF (consA (varD 1) nilA)) nilA))))
def den__law_kind : DS :=
    seqS (ifS (chainT leB leB (cD (.str "a")) (varD 0) (cD (.str "z"))) (retS (cD (.int 1))) (skipS))
    (retS (ifD (chainT leB leB (cD (.str "0")) (varD 0) (cD (.str "9"))) (cD (.int 2)) (cD (.int 0))))
def den__law_marks : DS :=
    seqS (mparS [1, 2, 3] [(true, lstD (nilA)), (false, cD (.int 0)), (false, cD (.int 0))])
    (seqS (forS (seqI (varD 0)) (nmG 4) (seqS (setS 5 (callD S__law_kind (consA (varD 4) nilA)))
    (seqS (ifS (andT (cmpT gtB (varD 5) (cD (.int 0))) (andT (cmpT neB (peekD 1) (lstD (nilA))) (andT (cmpT eqB (opD idxV (opD idxV (peekD 1) (unD negD (cD (.int 1)))) (cD (.int 3))) (varD 5)) (cmpT eqB (slcD (opD idxV (peekD 1) (unD negD (cD (.int 1)))) (noO) (someO (cD (.int 2)))) (tupD (consA (varD 2) (consA (opD subD (varD 3) (bltD lenF (consA (opD idxV (opD idxV (peekD 1) (unD negD (cD (.int 1)))) (cD (.int 2))) nilA))) nilA))))))) (putS 1 (unD negD (cD (.int 1))) (opD addD (slcD (opD idxV (peekD 1) (unD negD (cD (.int 1)))) (noO) (someO (cD (.int 2)))) (tupD (consA (opD addD (opD idxV (opD idxV (peekD 1) (unD negD (cD (.int 1)))) (cD (.int 2))) (varD 4)) (consA (varD 5) nilA))))) (ifS (cmpT neB (varD 4) (cD (.str " "))) (appS 1 (tupD (consA (varD 2) (consA (varD 3) (consA (varD 4) (consA (varD 5) nilA)))))) (skipS)))
    (letS (tupG (consG (nmG 2) (consG (nmG 3) (nilG)))) (ifD (cmpT eqB (varD 4) (cD (.str "\n"))) (tupD (consA (opD addD (varD 2) (cD (.int 1))) (consA (cD (.int 0)) nilA))) (tupD (consA (varD 2) (consA (opD addD (varD 3) (cD (.int 1))) nilA))))))))
    (retS (compD (seqI (peekD 1)) (nmG 6) (yesT) (slcD (varD 6) (noO) (someO (cD (.int 3)))) [6])))
def den__law_piece : DS :=
    seqS (setS 1 (callD S__law_draw (consA (varD 0) (consA (cD (.int 9)) nilA))))
    (seqS (ifS (cmpT ltB (varD 1) (cD (.int 2))) (retS (methD joinF (cD (.str "")) (consA (compD (rng1I (opD addD (cD (.int 1)) (callD S__law_draw (consA (varD 0) (consA (callD S__law_pick (consA (varD 0) (consA (lstD (consA (cD (.int 3)) (consA (cD (.int 7)) (consA (cD (.int 30)) nilA)))) nilA))) nilA))))) (nmG 3) (yesT) (opD idxV (cD (.str "abcxyznoru")) (callD S__law_draw (consA (varD 0) (consA (cD (.int 10)) nilA)))) [3]) nilA))) (skipS))
    (seqS (ifS (cmpT ltB (varD 1) (cD (.int 4))) (retS (methD joinF (cD (.str "")) (consA (compD (rng1I (opD addD (cD (.int 1)) (callD S__law_draw (consA (varD 0) (consA (callD S__law_pick (consA (varD 0) (consA (lstD (consA (cD (.int 2)) (consA (cD (.int 4)) (consA (cD (.int 6)) nilA)))) nilA))) nilA))))) (nmG 3) (yesT) (opD idxV (cD (.str "0123456789")) (callD S__law_draw (consA (varD 0) (consA (cD (.int 10)) nilA)))) [3]) nilA))) (skipS))
    (seqS (ifS (cmpT eqB (varD 1) (cD (.int 4))) (retS (opD mulD (cD (.str " ")) (opD addD (cD (.int 1)) (callD S__law_draw (consA (varD 0) (consA (cD (.int 3)) nilA)))))) (skipS))
    (seqS (setS 2 (lstD (consA (cD (.str "\n")) (consA (cD (.str ":")) (consA (cD (.str ",")) (consA (cD (.str ";")) (consA (cD (.str "/")) (consA (cD (.str "!")) (consA (cD (.str "&")) (consA (cD (.str "|")) (consA (cD (.str "(")) (consA (cD (.str ")")) (consA (cD (.str "A")) (consA (cD (.str "Z")) (consA (cD (.str "-")) (consA (cD (.str "~")) (consA (cD (.str "_")) (consA (cD (.str "@")) (consA (cD (.str "{")) (consA (cD (.str "[")) (consA (cD (.str "?")) (consA (cD (.str "\n")) (consA (cD (.str ".")) (consA (cD (.str "$")) nilA))))))))))))))))))))))))
    (retS (callD S__law_pick (consA (varD 0) (consA (opD addD (varD 2) (lstD (consA (cD (.str "\\")) (consA (cD (.str "#")) (consA (cD (.str "*")) nilA))))) nilA))))))))
def den_law : DS :=
    seqS (setS 1 (callD S__law_heap (consA (varD 0) nilA)))
    (seqS (forS (rng1I (opD addD (cD (.int 3)) (opD mulD (cD (.int 3)) (bltD intF (consA (opD (cmpV gtB) (bltD lenF (consA (varD 0) nilA)) (cD (.int 2))) nilA))))) (nmG 2) (seqS (setS 3 (methD joinF (cD (.str "")) (consA (compD (rng1I (callD S__law_pick (consA (varD 1) (consA (lstD (consA (cD (.int 5)) (consA (cD (.int 20)) (consA (cD (.int 1)) (consA (cD (.int 60)) (consA (cD (.int 0)) nilA)))))) nilA)))) (nmG 7) (yesT) (callD S__law_piece (consA (varD 1) nilA)) [7]) nilA)))
    (seqS (setS 3 (ifD (cmpT eqB (callD S__law_draw (consA (varD 1) (consA (cD (.int 5)) nilA))) (cD (.int 0))) (opD addD (opD addD (opD addD (opD addD (opD mulD (cD (.str "7")) (cD (.int 390))) (cD (.str " "))) (varD 3)) (cD (.str ":"))) (opD mulD (cD (.str "12")) (cD (.int 190)))) (varD 3)))
    (seqS (setS 4 (bltD tupF (consA (callD S__law_marks (consA (varD 3) nilA)) nilA)))
    (seqS (setS 5 (callD S_marks_of (consA (varD 3) nilA)))
    (seqS (ifS (orT (cmpT neB (bltD reprF (consA (varD 5) nilA)) (bltD reprF (consA (varD 4) nilA))) (cmpT neB (callKD S_marks_of (kwPut ["text"] ["text"]) (nilA) (consA (varD 3) nilA)) (varD 5))) (retS (cD (.bl false))) (skipS))
    (seqS (setS 6 (methD joinF (cD (.str " ")) (consA (compD (seqI (varD 4)) (tupG (consG (nmG 8) (consG (nmG 9) (consG (nmG 10) (nilG))))) (yesT) (varD 10) [8, 9, 10]) nilA)))
    (ifS (cmpT neB (compD (seqI (callD S_marks_of (consA (varD 6) nilA))) (tupG (consG (nmG 8) (consG (nmG 9) (consG (nmG 10) (nilG))))) (yesT) (varD 10) [8, 9, 10]) (compD (seqI (varD 4)) (tupG (consG (nmG 8) (consG (nmG 9) (consG (nmG 10) (nilG))))) (yesT) (varD 10) [8, 9, 10])) (retS (cD (.bl false))) (skipS)))))))))
    (seqS (ifS (orT (cmpT neB (callD S_marks_of (consA (cD (.str "")) nilA)) (tupD (nilA))) (orT (cmpT neB (callD S_marks_of (consA (cD (.str "  ")) nilA)) (tupD (nilA))) (cmpT neB (callD S_marks_of (consA (cD (.str " \n")) nilA)) (tupD (consA (tupD (consA (cD (.int 0)) (consA (cD (.int 1)) (consA (cD (.str "\n")) nilA)))) nilA))))) (retS (cD (.bl false))) (skipS))
    (retS (opD (cmpV eqB) (callD S_marks_of (consA (cD (.str "any:2 b\n12,-c3")) nilA)) (tupD (consA (tupD (consA (cD (.int 0)) (consA (cD (.int 0)) (consA (cD (.str "any")) nilA)))) (consA (tupD (consA (cD (.int 0)) (consA (cD (.int 3)) (consA (cD (.str ":")) nilA)))) (consA (tupD (consA (cD (.int 0)) (consA (cD (.int 4)) (consA (cD (.str "2")) nilA)))) (consA (tupD (consA (cD (.int 0)) (consA (cD (.int 6)) (consA (cD (.str "b")) nilA)))) (consA (tupD (consA (cD (.int 0)) (consA (cD (.int 7)) (consA (cD (.str "\n")) nilA)))) (consA (tupD (consA (cD (.int 1)) (consA (cD (.int 0)) (consA (cD (.str "12")) nilA)))) (consA (tupD (consA (cD (.int 1)) (consA (cD (.int 2)) (consA (cD (.str ",")) nilA)))) (consA (tupD (consA (cD (.int 1)) (consA (cD (.int 3)) (consA (cD (.str "-")) nilA)))) (consA (tupD (consA (cD (.int 1)) (consA (cD (.int 4)) (consA (cD (.str "c")) nilA)))) (consA (tupD (consA (cD (.int 1)) (consA (cD (.int 5)) (consA (cD (.str "3")) nilA)))) nilA)))))))))))))))

@[simp] theorem inB_one (c : Nat) (g : List Nat) : inB (.str ⟨#[c]⟩) (.str (tx g)) = some (decide (c ∈ g)) := by
  show some (strIn ⟨#[c]⟩ (tx g)) = _
  unfold strIn
  rw [StrLaws.found_one]
theorem ixN_ofNat {n j : Nat} (h : j < n) : ixN n (j : Int) = some j := by
  unfold ixN
  rw [if_pos (by omega), if_pos (by omega), Int.toNat_natCast]
theorem atI_drop {α : Type} {xs : List α} {k : Nat} {y : α} {ys : List α} (h : xs.drop k = y :: ys) : L2.atI xs (k : Int) = some y := by
  rw [Nv.atI_get]
  have hk : k < xs.length := by
    have := congrArg List.length h; simp at this; omega
  refine ⟨k, ixN_ofNat hk, ?_⟩
  have := congrArg List.head? h
  simpa using this
@[simp] theorem tx_len (t : List Nat) : (tx t).length = t.length := by simp [tx, Str.length]
@[simp] theorem tx_list (t : List Nat) : (tx t).cps.toList = t := rfl
theorem sem_run_end (ds : List D) (r : Rs) (x : Nat → List D → Rs → Prop) (q : D → Rs → Prop) (hl : ds.length = 3) (h : S_run_end ds r x q) : den_run_end (startE 3 ds) r (ktOf q x) := by
  obtain ⟨t, k, g, rfl, hk, hz, hq⟩ := h
  have e0 : startE 3 [.str (tx t), .int k, .str (tx g)] = [.val (.str (tx t)), .val (.int k), .val (.str (tx g))] := rfl
  rw [e0]
  refine ⟨(t.drop k).length + 1, ?_⟩
  have key : ∀ (u : List Nat) (k : Nat), k ≤ t.length → t.drop k = u → q (.int (k + (u.takeWhile fun c => decide (c ∈ g)).length : Nat)) r →
      whW (andT (cmpT ltB (varD 1) (bltD lenF (consA (varD 0) nilA))) (cmpT inB (opD idxV (varD 0) (varD 1)) (varD 2))) (setS 1 (opD addD (varD 1) (cD (.int 1))))
        { ktOf q x with nx := fun env r => retS (varD 1) env r (ktOf q x) } (u.length + 1) [.val (.str (tx t)), .val (.int k), .val (.str (tx g))] r := by
    intro u
    induction u with
    | nil =>
      intro k hk hd hq
      have : ¬ (k < t.length) := by
        have := congrArg List.length hd; simp at this; omega
      unfold whW
      simpa [hz, this, ktOf] using hq
    | cons c u ih =>
      intro k hk hd hq
      have hk : k < t.length := by
        have := congrArg List.length hd; simp at this; omega
      have ha := atI_drop hd
      have hd' : t.drop (k + 1) = u := by rw [← List.drop_drop, hd]; rfl
      unfold whW
      by_cases hc : c ∈ g
      · have := ih (k + 1) (by omega) hd' (by simp [List.takeWhile_cons, hc] at hq; simpa [Nat.add_assoc, Nat.add_comm 1] using hq)
        simpa [hz, hk, ha, hc] using this
      · simp [List.takeWhile_cons, hc] at hq
        simpa [hz, hk, ha, hc, ktOf] using hq
  exact key _ k hk rfl hq

def lets : List Nat := [97, 98, 99, 100, 101, 102, 103, 104, 105, 106, 107, 108, 109, 110, 111, 112, 113, 114, 115, 116, 117, 118, 119, 120, 121, 122]
def digs : List Nat := [48, 49, 50, 51, 52, 53, 54, 55, 56, 57]
theorem k_L : k_LETTERS = .str (tx lets) := by unfold k_LETTERS; exact congrArg D.str (by decide +kernel)
theorem k_D : k_DIGITS = .str (tx digs) := by unfold k_DIGITS; exact congrArg D.str (by decide +kernel)
theorem mem_lets (c : Nat) : c ∈ lets ↔ isL c = true := by unfold lets isL; simp; omega
theorem mem_digs (c : Nat) : c ∈ digs ↔ isD c = true := by unfold digs isD; simp; omega
theorem dig_not_let {c : Nat} (h : isD c = true) : isL c = false := by unfold isD at h; unfold isL; simp at h ⊢; omega
theorem same_let {c : Nat} (h : c ∈ lets) : (fun d => decide (d ∈ lets)) = same c := by
  funext d
  rw [mem_lets] at h
  unfold same kd
  by_cases hd : isL d = true
  · simp [mem_lets, h, hd]
  · simp [mem_lets, h, hd]; split <;> simp
theorem same_dig {c : Nat} (h : c ∈ digs) : (fun d => decide (d ∈ digs)) = same c := by
  funext d
  rw [mem_digs] at h
  have h2 := dig_not_let h
  unfold same kd
  by_cases hl : isL d = true
  · have : isD d = false := by unfold isL at hl; unfold isD; simp at hl ⊢; omega
    simp [mem_digs, h, h2, hl, this]
  · by_cases hd : isD d = true
    · simp [mem_digs, h, h2, hl, hd]
    · simp [mem_digs, h, h2, hl, hd]
theorem same_none {c : Nat} (h1 : c ∉ lets) (h2 : c ∉ digs) (cs : List Nat) : cs.takeWhile (same c) = [] := by
  rw [mem_lets] at h1; rw [mem_digs] at h2
  have : kd c = 0 := by unfold kd; simp [h1, h2]
  cases cs with
  | nil => rfl
  | cons d r => rw [List.takeWhile_cons]; simp [same, this]
theorem cut_mid {t m u : List Nat} {k : Nat} (h : t.drop k = m ++ u) (hk : k ≤ t.length) : cutS (tx t) (some (k : Int)) (some ((k + m.length : Nat) : Int)) = tx m := by
  have hl := congrArg List.length h
  simp at hl
  unfold cutS HT.sIx
  rw [tx_len, tx_list]
  have h1 : ¬ ((k : Int) < 0) := by omega
  have h2 : ¬ (((k + m.length : Nat) : Int) < 0) := by omega
  simp only [if_neg h1, if_neg h2, Int.toNat_natCast]
  rw [Nat.min_eq_left hk, Nat.min_eq_left (by omega), h]
  have : k + m.length - k = m.length := by omega
  rw [this, List.take_left]
theorem sem_mark_at (ds : List D) (r : Rs) (x : Nat → List D → Rs → Prop) (q : D → Rs → Prop) (hl : ds.length = 2) (h : S_mark_at ds r x q) : den_mark_at (startE 2 ds) r (ktOf q x) := by
  obtain ⟨t, k, rfl, hk, hz, hq⟩ := h
  have e0 : startE 2 [.str (tx t), .int k] = [.val (.str (tx t)), .val (.int k)] := rfl
  rw [e0]
  unfold den_mark_at
  rw [k_L, k_D]
  obtain ⟨c, cs, hd⟩ : ∃ c cs, t.drop k = c :: cs := by
    cases h : t.drop k with
    | nil => have := congrArg List.length h; simp at this; omega
    | cons c cs => exact ⟨c, cs, rfl⟩
  have ha := atI_drop hd
  rw [hd] at hq
  have hm : t.drop k = markOf (c :: cs) ++ cs.dropWhile (same c) := by rw [hd, markOf, List.cons_append, List.takeWhile_append_dropWhile]
  by_cases h1 : c ∈ lets
  · have hr : ∀ q' : D → Rs → Prop, q' (.int ((k + (markOf (c :: cs)).length : Nat) : Int)) r → S_run_end [.str (tx t), .int k, .str (tx lets)] r (fun c fs r2 => x c fs r2) q' := by
      intro q' hq'
      refine ⟨t, k, lets, rfl, by omega, hz, ?_⟩
      rw [hd, List.takeWhile_cons, if_pos (by simpa using h1), same_let h1]
      exact hq'
    simp [hz, ha, h1, ktOf]
    refine hr _ ?_
    simp [hz]
    have := cut_mid hm (by omega)
    simp at this
    rw [this]
    exact hq
  · by_cases h2 : c ∈ digs
    · have hr : ∀ q' : D → Rs → Prop, q' (.int ((k + (markOf (c :: cs)).length : Nat) : Int)) r → S_run_end [.str (tx t), .int k, .str (tx digs)] r (fun c fs r2 => x c fs r2) q' := by
        intro q' hq'
        refine ⟨t, k, digs, rfl, by omega, hz, ?_⟩
        rw [hd, List.takeWhile_cons, if_pos (by simpa using h2), same_dig h2]
        exact hq'
      simp [hz, ha, h1, h2, ktOf]
      refine hr _ ?_
      simp [hz]
      have := cut_mid hm (by omega)
      simp at this
      rw [this]
      exact hq
    · simp [hz, ha, h1, h2, ktOf]
      rw [markOf, same_none h1 h2] at hq
      exact hq
theorem sem__law_pick (ds : List D) (r : Rs) (x : Nat → List D → Rs → Prop) (q : D → Rs → Prop) (hl : ds.length = 2) (h : S__law_pick ds r x q) : den__law_pick (startE 2 ds) r (ktOf q x) := by
  obtain ⟨xs, rfl, hn, hb, hh, hq⟩ := h
  have e0 : startE 2 [.ref 1, .lst xs] = [.val (.ref 1), .val (.lst xs)] := rfl
  rw [e0]
  unfold den__law_pick
  have hp : 0 < xs.length := List.length_pos_iff.2 hn
  simp [ktOf]
  refine ⟨xs.length, rfl, hh, by omega, by omega, ?_⟩
  intro j r' h0 h1 hr'
  obtain ⟨n, rfl⟩ := Int.eq_ofNat_of_zero_le h0
  have hj : n < xs.length := by omega
  have : L2.atI xs (n : Int) = some xs[n] := by rw [Nv.atI_get]; exact ⟨n, ixN_ofNat hj, List.getElem?_eq_getElem hj⟩
  simp [this]
  exact hq _ (List.getElem_mem hj) _ hr'
theorem sem__law_kind (ds : List D) (r : Rs) (x : Nat → List D → Rs → Prop) (q : D → Rs → Prop) (hl : ds.length = 1) (h : S__law_kind ds r x q) : den__law_kind (startE 1 ds) r (ktOf q x) := by
  obtain ⟨c, rfl, hq⟩ := h
  have e0 : startE 1 [.str ⟨#[c]⟩] = [.val (.str ⟨#[c]⟩)] := rfl
  have ea : ("a" : Str) = ⟨#[97]⟩ := by decide +kernel
  have ez : ("z" : Str) = ⟨#[122]⟩ := by decide +kernel
  have e0' : ("0" : Str) = ⟨#[48]⟩ := by decide +kernel
  have e9 : ("9" : Str) = ⟨#[57]⟩ := by decide +kernel
  rw [e0]
  unfold den__law_kind
  rw [ea, ez, e0', e9]
  have hlt : ∀ a b : Nat, ([a] < [b]) ↔ a < b := fun a b => by simp [List.cons_lt_cons_iff]
  unfold kd isL isD at hq
  simp [ktOf, hlt]
  by_cases a1 : 97 ≤ c <;> by_cases a2 : c ≤ 122 <;> by_cases a3 : 48 ≤ c <;> by_cases a4 : c ≤ 57 <;> simp [a1, a2, a3, a4] at hq ⊢ <;> first | exact hq | omega
end K05

/-! marks_of and the law's own marks -/
namespace K05
open PySem PySem.Spec PyProof.Rows L2 Nv
theorem tx_inj {a b : List Nat} : tx a = tx b ↔ a = b := ⟨fun h => congrArg (fun x : Str => x.cps.toList) h, fun h => by rw [h]⟩
theorem e_sp : (" " : Str) = tx [32] := by decide +kernel
theorem e_nl : ("\n" : Str) = tx [10] := by decide +kernel
theorem runs_len_lt {c : Nat} {cs : List Nat} : (cs.dropWhile (same c)).length < (c :: cs).length := by have := dropW_len (same c) cs; simp only [List.length_cons]; omega
theorem runs_cons (c : Nat) (cs : List Nat) : runs (c :: cs) = markOf (c :: cs) :: runs (cs.dropWhile (same c)) := by rw [runs, markOf]
theorem sem_marks_of (ds : List D) (r : Rs) (x : Nat → List D → Rs → Prop) (q : D → Rs → Prop) (hl : ds.length = 1) (h : S_marks_of ds r x q) : den_marks_of (startE 6 ds) r (ktOf q x) := by
  obtain ⟨t, rfl, hz, hq⟩ := h
  have e0 : startE 6 [.str (tx t)] = [.val (.str (tx t)), .un, .un, .un, .un, .un] := rfl
  have hs : sizeLine = 16777216 := rfl
  rw [e0]
  unfold den_marks_of
  rw [e_sp, e_nl]
  simp
  refine ⟨t.length + 1, ?_⟩
  have key : ∀ (n : Nat) (u : List Nat) (k line start : Nat) (acc : List (Nat × Nat × List Nat)) (m : Sl), u.length < n → t.drop k = u → start ≤ k → k ≤ t.length → acc.length ≤ k →
      q (.tup ((acc ++ place line (k - start) (runs u)).map mk3)) r →
      whW (cmpT ltB (varD 4) (bltD lenF (consA (varD 0) nilA))) (seqS (setS 5 (callD S_mark_at (consA (varD 0) (consA (varD 4) nilA))))
    (seqS (ifS (cmpT neB (varD 5) (cD (.str (tx [32])))) (appS 1 (tupD (consA (varD 2) (consA (opD subD (varD 4) (varD 3)) (consA (varD 5) nilA))))) (skipS))
    (seqS (setS 4 (opD addD (varD 4) (bltD lenF (consA (varD 5) nilA))))
    (ifS (cmpT eqB (varD 5) (cD (.str (tx [10])))) (mparS [2, 3] [(false, opD addD (varD 2) (cD (.int 1))), (false, varD 4)]) (skipS)))))
        { nx := fun env r => retS (bltD tupF (consA (peekD 1) nilA)) env r (ktOf q x), rt := (ktOf q x).rt, bk := (ktOf q x).bk, ct := (ktOf q x).ct, x := (ktOf q x).x } n [.val (.str (tx t)), .own (acc.map mk3), .val (.int line), .val (.int start), .val (.int k), m] r := by
    intro n
    induction n with
    | zero => intro u k line start acc m h; omega
    | succ n ih =>
      intro u k line start acc m hn hd hsk hk ha hq
      unfold whW
      cases u with
      | nil =>
        have : ¬ (k < t.length) := by
          have := congrArg List.length hd; simp at this; omega
        rw [runs] at hq
        simp [place] at hq
        simpa [Nat.le_of_lt hz, this, ktOf] using hq
      | cons c cs =>
        have hkt : k < t.length := by
          have := congrArg List.length hd; simp at this; omega
        have hm : t.drop k = markOf (c :: cs) ++ cs.dropWhile (same c) := by rw [hd, markOf, List.cons_append, List.takeWhile_append_dropWhile]
        have hml := congrArg List.length hm
        simp at hml
        have hm1 : 1 ≤ (markOf (c :: cs)).length := by simp [markOf]
        have hd' : t.drop (k + (markOf (c :: cs)).length) = cs.dropWhile (same c) := by rw [← List.drop_drop, hm, List.drop_left]
        have hcl := @runs_len_lt c cs
        rw [runs_cons] at hq
        have ih' := fun (line start : Nat) (acc : List (Nat × Nat × List Nat)) (m : Sl) hsk ha hq => ih _ (k + (markOf (c :: cs)).length) line start acc m (by omega) hd' hsk (by omega) ha hq
        generalize hM : markOf (c :: cs) = M at *
        have hsub : (k : Int) - (start : Int) = ((k - start : Nat) : Int) := by omega
        have hMz : M.length ≤ sizeLine := by rw [hs]; omega
        simp [Nat.le_of_lt hz, hkt]
        refine ⟨t, k, rfl, hkt, Nat.le_of_lt hz, ?_⟩
        rw [hd, hM]
        by_cases h32 : M = [32]
        · subst h32
          have := ih' line start acc (.val (.str (tx [32]))) (by omega) (by omega) (by simp [place] at hq ⊢; rw [show k + 1 - start = k - start + 1 by omega]; exact hq)
          simp at this
          simp [hs, tx_inj]
          exact this
        · by_cases h10 : M = [10]
          · subst h10
            have := ih' (line + 1) (k + 1) (acc ++ [(line, k - start, [10])]) (.val (.str (tx [10]))) (by simp) (by simp; omega) (by simp [place] at hq ⊢; exact hq)
            simp at this
            simp [tx_inj, hs]
            refine ⟨by omega, ?_⟩
            rw [hsub]
            exact this
          · have := ih' line start (acc ++ [(line, k - start, M)]) (.val (.str (tx M))) (by omega) (by simp; omega) (by simp [place, h32, h10] at hq ⊢; rw [show k + M.length - start = k - start + M.length by omega]; exact hq)
            simp at this
            simp [tx_inj, hMz, h32, h10]
            refine ⟨by rw [hs]; decide, by omega, ?_⟩
            rw [hsub]
            exact this
  exact key _ t 0 0 0 [] .un (by omega) rfl (by omega) (by omega) (by simp) (by simpa [marksD] using hq)
end K05

/-! the law's own marks -/
namespace K05
open PySem PySem.Spec PyProof.Rows L2 Nv
theorem pyAll_map {α : Type} {F : α → D} {P : α → PyData} (h : ∀ x, (F x).py = some (P x)) : ∀ xs : List α, D.pyAll (xs.map F) = some (xs.map P)
  | [] => rfl
  | x :: xs => by simp only [List.map_cons, D.pyAll, h x, pyAll_map h xs]
theorem layAll_of {ps : List PyData} (h : ∀ p ∈ ps, p.canLay0 = true) : PyData.canLayAll0 ps = true := by
  induction ps with
  | nil => simp only [PyData.canLayAll0]
  | cons p ps ih => simp only [PyData.canLayAll0, h p (.head _), ih fun q hq => h q (.tail _ hq), Bool.and_self]
theorem depthAll_of {n : Nat} {ps : List PyData} (h : ∀ p ∈ ps, p.depth ≤ n) : PyData.depthAll ps ≤ n := by
  induction ps with
  | nil => simp only [PyData.depthAll, Nat.zero_le]
  | cons p ps ih => simp only [PyData.depthAll]; exact Nat.max_le.2 ⟨h p (.head _), ih fun q hq => h q (.tail _ hq)⟩
theorem shaped_list {ps : List PyData} (h : ∀ p ∈ ps, p.canLay0 = true ∧ p.depth ≤ 60) : SeqAt.shaped (.list ps) = true := by
  unfold SeqAt.shaped
  rw [Bool.and_eq_true, decide_eq_true_eq]
  refine ⟨by simp only [PyData.canLay0]; exact layAll_of fun p hp => (h p hp).1, ?_⟩
  have := depthAll_of fun p hp => (h p hp).2
  simp only [PyData.depth]; omega
theorem shaped_tup {ps : List PyData} (h : ∀ p ∈ ps, p.canLay0 = true ∧ p.depth ≤ 60) : SeqAt.shaped (.tuple ps) = true := by
  unfold SeqAt.shaped
  rw [Bool.and_eq_true, decide_eq_true_eq]
  refine ⟨by simp only [PyData.canLay0]; exact layAll_of fun p hp => (h p hp).1, ?_⟩
  have := depthAll_of fun p hp => (h p hp).2
  simp only [PyData.depth]; omega
theorem tx_ok {m : List Nat} (h : ∀ c ∈ m, c < 0x110000) : PyData.strOk (tx m) = true := by
  unfold PyData.strOk
  rw [← Array.all_toList]
  simpa using h
def py4 (p : M4) : PyData := .tuple [.int p.1, .int p.2.1, .str (tx p.2.2.1), .int p.2.2.2]
theorem mk4_py (p : M4) : (mk4 p).py = some (py4 p) := by simp [mk4, D.py, D.pyAll, py4]
theorem py4_ok {p : M4} (h : ∀ c ∈ p.2.2.1, c < 0x110000) : (py4 p).canLay0 = true ∧ (py4 p).depth ≤ 60 := by
  unfold py4
  simp [PyData.canLay0, PyData.canLayAll0, PyData.depth, PyData.depthAll, tx_ok h]
theorem neB_nil_of {ds : List D} {ps : List PyData} (h : D.pyAll ds = some ps) (hs : SeqAt.shaped (.list ps) = true) : neB (.lst ds) (.lst []) = some (decide (ds ≠ [])) := by
  have e : eqD (.lst ds) (.lst []) = eqP (.lst ds) (.lst []) := rfl
  unfold neB
  rw [e]
  unfold eqP
  rw [pyAll_lst h, pyAll_lst (bs := []) rfl]
  have h0 : SeqAt.shaped (.list []) = true := shaped_list fun p hp => nomatch hp
  simp only [hs, h0, Bool.and_self, if_true]
  cases ds with
  | nil => cases h; simp [PyData.eqv, PyData.eqvAll]
  | cons d ds =>
    cases ps with
    | nil => simp only [D.pyAll] at h; split at h <;> cases h
    | cons p ps => simp [PyData.eqv, PyData.eqvAll]
def okF (f : List M4) (n : Nat) : Prop := f.length + n ≤ 10000 ∧ ∀ p ∈ f, p.2.2.1.length + n ≤ 10000 ∧ ∀ c ∈ p.2.2.1, c < 0x110000
theorem ne_f {f : List M4} {n : Nat} (h : okF f n) : neB (.lst (f.map mk4)) (.lst []) = some (decide (f ≠ [])) := by
  have := neB_nil_of (pyAll_map mk4_py f) (shaped_list fun p hp => by obtain ⟨m, hm, rfl⟩ := List.mem_map.1 hp; exact py4_ok (h.2 m hm).2)
  rw [this]; simp
@[simp] theorem eqB_pair (a b c d : Int) : eqB (.tup [.int a, .int b]) (.tup [.int c, .int d]) = some (decide (a = c ∧ b = d)) := by
  show eqP (.tup [.int a, .int b]) (.tup [.int c, .int d]) = _
  unfold eqP
  simp [D.py, D.pyAll, SeqAt.shaped, PyData.canLay0, PyData.canLayAll0, PyData.depth, PyData.depthAll, PyData.eqv, PyData.eqvAll]
  rw [Bool.eq_iff_iff]; simp
@[simp] theorem ixN_m1 (n : Nat) : ixN (n + 1) (-1) = some n := by
  unfold ixN
  rw [if_neg (by omega), if_pos (by omega)]
  congr 1
  omega
@[simp] theorem set_last {α β : Type} (F : α → β) (xs : List α) (x y : β) : (xs.map F ++ [x]).set xs.length y = xs.map F ++ [y] := by
  rw [List.set_append_right _ _ (by simp)]; simp
@[simp] theorem atI_2 {α : Type} (x y z : α) (xs : List α) : L2.atI (x :: y :: z :: xs) 2 = some z := by
  rw [Nv.atI_get]
  exact ⟨2, by simp [ixN]; omega, rfl⟩
@[simp] theorem atI_3 {α : Type} (x y z w : α) (xs : List α) : L2.atI (x :: y :: z :: w :: xs) 3 = some w := by
  rw [Nv.atI_get]
  exact ⟨3, by simp [ixN]; omega, rfl⟩
@[simp] theorem cut42 (a b c d : D) : Nv.cutD [a, b, c, d] none (some 2) = [a, b] := rfl
@[simp] theorem cut43 (a b c d : D) : Nv.cutD [a, b, c, d] none (some 3) = [a, b, c] := rfl
theorem mk4_s3 (p : M4) : slcV (mk4 p) none (some 3) = some (mk3 (p.1, p.2.1, p.2.2.1)) := rfl
@[simp] theorem tx_cat (a b : List Nat) : (tx a ++ tx b : Str) = tx (a ++ b) := by
  show (⟨a.toArray ++ b.toArray⟩ : Str) = _
  simp [tx]
def markB : DS := (seqS (setS 5 (callD S__law_kind (consA (varD 4) nilA)))
    (seqS (ifS (andT (cmpT gtB (varD 5) (cD (.int 0))) (andT (cmpT neB (peekD 1) (lstD (nilA))) (andT (cmpT eqB (opD idxV (opD idxV (peekD 1) (unD negD (cD (.int 1)))) (cD (.int 3))) (varD 5)) (cmpT eqB (slcD (opD idxV (peekD 1) (unD negD (cD (.int 1)))) (noO) (someO (cD (.int 2)))) (tupD (consA (varD 2) (consA (opD subD (varD 3) (bltD lenF (consA (opD idxV (opD idxV (peekD 1) (unD negD (cD (.int 1)))) (cD (.int 2))) nilA))) nilA))))))) (putS 1 (unD negD (cD (.int 1))) (opD addD (slcD (opD idxV (peekD 1) (unD negD (cD (.int 1)))) (noO) (someO (cD (.int 2)))) (tupD (consA (opD addD (opD idxV (opD idxV (peekD 1) (unD negD (cD (.int 1)))) (cD (.int 2))) (varD 4)) (consA (varD 5) nilA))))) (ifS (cmpT neB (varD 4) (cD (.str (tx [32])))) (appS 1 (tupD (consA (varD 2) (consA (varD 3) (consA (varD 4) (consA (varD 5) nilA)))))) (skipS)))
    (letS (tupG (consG (nmG 2) (consG (nmG 3) (nilG)))) (ifD (cmpT eqB (varD 4) (cD (.str (tx [10])))) (tupD (consA (opD addD (varD 2) (cD (.int 1))) (consA (cD (.int 0)) nilA))) (tupD (consA (varD 2) (consA (opD addD (varD 3) (cD (.int 1))) nilA)))))))
theorem mark_step {t : Str} {f : List M4} {l a c n : Nat} {d5 : Sl} {r : Rs} {k : Kt} (hf : okF f (n + 1))
    (hk : ∀ d4 d5, k.nx [.val (.str t), .own ((step (f, l, a) c).1.map mk4), .val (.int (step (f, l, a) c).2.1), .val (.int (step (f, l, a) c).2.2), d4, d5, .un] r) :
    markB [.val (.str t), .own (f.map mk4), .val (.int l), .val (.int a), .val (.str ⟨#[c]⟩), d5, .un] r k := by
  have hs : sizeLine = 16777216 := rfl
  have h2s : 2 ≤ sizeLine := by rw [hs]; decide
  have h4s : 4 ≤ sizeLine := by rw [hs]; decide
  have hne := ne_f hf
  have hfl : f.length < sizeLine := by have := hf.1; rw [hs]; omega
  have hk' := hk (.val (.str ⟨#[c]⟩)) (.val (.int (kd c)))
  have e1 : (⟨#[c]⟩ : Str) = tx [c] := rfl
  have tail : ∀ f' : List M4, step (f, l, a) c = (if c = 10 then (f', l + 1, 0) else (f', l, a + 1)) →
      (letS (tupG (consG (nmG 2) (consG (nmG 3) (nilG)))) (ifD (cmpT eqB (varD 4) (cD (.str (tx [10])))) (tupD (consA (opD addD (varD 2) (cD (.int 1))) (consA (cD (.int 0)) nilA))) (tupD (consA (varD 2) (consA (opD addD (varD 3) (cD (.int 1))) nilA)))))
        [.val (.str t), .own (f'.map mk4), .val (.int l), .val (.int a), .val (.str ⟨#[c]⟩), .val (.int (kd c)), .un] r k := by
    intro f' e
    rw [e] at hk'
    rw [e1] at hk' ⊢
    by_cases h10 : c = 10
    · simp [h10, h2s] at hk' ⊢; exact hk'
    · simp [h10, h2s, tx_inj] at hk' ⊢; exact hk'
  unfold markB
  rw [seqS, setS, callD, consA, varD]
  simp only [List.getElem?_cons_zero, List.getElem?_cons_succ, nilA]
  refine ⟨c, rfl, ?_⟩
  simp only [seqS, List.set_cons_zero, List.set_cons_succ]
  generalize hlet : letS _ _ = LS at tail ⊢
  by_cases hm : ∃ g l' c' m', f = g ++ [(l', c', m', kd c)] ∧ 0 < kd c ∧ l' = l ∧ c' + m'.length = a
  · obtain ⟨g, l', c', m', rfl, hkd, rfl, rfl⟩ := hm
    have := tail (g ++ [(l', c', m' ++ [c], kd c)]) (by unfold step; simp [hkd])
    have hml : m'.length + 1 ≤ sizeLine := by have := (hf.2 (l', c', m', kd c) (by simp)).1; rw [hs]; simp at this; omega
    simp [mk4] at this hne
    simp [mk4, hne, h2s, h4s, hkd, hml, e1, Nat.le_of_succ_le hml]
    rw [e1] at this
    exact this
  · have hstop : Stop (kd c) f l a := by
      intro l' c' m' k' hg hh
      obtain ⟨ys, rfl⟩ := List.getLast?_eq_some_iff.1 hg
      exact hm ⟨ys, l', c', m', by rw [hh.2.1], hh.1, hh.2.2.1, hh.2.2.2⟩
    have hst := step_new hstop
    have hno : ∀ (q' : Bool → Rs → Prop) (x : Xk), q' false r → andT (cmpT gtB (varD 5) (cD (.int 0))) (andT (cmpT neB (peekD 1) (lstD (nilA))) (andT (cmpT eqB (opD idxV (opD idxV (peekD 1) (unD negD (cD (.int 1)))) (cD (.int 3))) (varD 5)) (cmpT eqB (slcD (opD idxV (peekD 1) (unD negD (cD (.int 1)))) (noO) (someO (cD (.int 2)))) (tupD (consA (varD 2) (consA (opD subD (varD 3) (bltD lenF (consA (opD idxV (opD idxV (peekD 1) (unD negD (cD (.int 1)))) (cD (.int 2))) nilA))) nilA))))))
        [.val (.str t), .own (f.map mk4), .val (.int l), .val (.int a), .val (.str ⟨#[c]⟩), .val (.int (kd c)), .un] r x q' := by
      intro q' x hq
      rcases snoc_cases f with rfl | ⟨g, ⟨l0, c0, m0, k0⟩, rfl⟩
      · by_cases hkd : 0 < kd c
        · simp at hne
          simpa [hkd, hne] using hq
        · simpa [hkd] using hq
      · have hml : m0.length ≤ sizeLine := by have := (hf.2 (l0, c0, m0, k0) (by simp)).1; rw [hs]; simp at this; omega
        simp [mk4] at hne
        by_cases hkd : 0 < kd c
        · by_cases h3 : k0 = kd c
          · subst h3
            by_cases e : l0 = l
            · subst e
              have : ¬ ((c0 : Int) = a - m0.length) := fun e2 => hm ⟨g, l0, c0, m0, rfl, hkd, rfl, by omega⟩
              simpa [mk4, hkd, hne, hml, h2s, this] using hq
            · have e' : ¬ ((l0 : Int) = (l : Int)) := by omega
              simpa [mk4, hkd, hne, hml, h2s, e'] using hq
          · have e' : ¬ ((k0 : Int) = (kd c : Int)) := by omega
            simpa [mk4, hkd, hne, e'] using hq
        · simpa [hkd] using hq
    rw [ifS]
    refine hno _ _ ?_
    by_cases h32 : c = 32
    · have := tail f (by rw [hst]; simp [h32])
      subst h32
      simpa [e1, tx_inj] using this
    · have := tail (f ++ [(l, a, [c], kd c)]) (by rw [hst]; simp [h32])
      simp at this
      simp [e1, tx_inj, h32, h4s, hfl]
      exact this
theorem step_ok {f : List M4} {l a c n : Nat} (hf : okF f (n + 1)) (hc : c < 0x110000) : okF (step (f, l, a) c).1 n := by
  have hnew : okF (f ++ [(l, a, [c], kd c)]) n := by
    refine ⟨by have := hf.1; simp; omega, ?_⟩
    intro p hp
    rcases List.mem_append.1 hp with hp | hp
    · have := hf.2 p hp; exact ⟨by omega, this.2⟩
    · simp at hp; subst hp; have := hf.1; exact ⟨by simp; omega, by simpa using hc⟩
  have hold : okF f n := ⟨by have := hf.1; omega, fun p hp => ⟨by have := (hf.2 p hp).1; omega, (hf.2 p hp).2⟩⟩
  have h0 : okF (if c ≠ 32 then f ++ [(l, a, [c], kd c)] else f) n := by split <;> assumption
  by_cases hm : ∃ g l' c' m', f = g ++ [(l', c', m', kd c)] ∧ 0 < kd c ∧ l' = l ∧ c' + m'.length = a
  · obtain ⟨g, l', c', m', rfl, hkd, rfl, rfl⟩ := hm
    have e : (step (g ++ [(l', c', m', kd c)], l', c' + m'.length) c).1 = g ++ [(l', c', m' ++ [c], kd c)] := by rw [step_more hkd rfl]
    rw [e]
    refine ⟨by have := hf.1; simp at this ⊢; omega, ?_⟩
    intro p hp
    rcases List.mem_append.1 hp with hp | hp
    · exact hold.2 p (by simp [hp])
    · simp at hp; subst hp
      have := hf.2 (l', c', m', kd c) (by simp)
      refine ⟨by have := this.1; simp at this ⊢; omega, ?_⟩
      intro d hd
      rcases List.mem_append.1 hd with hd | hd
      · exact this.2 d hd
      · simp at hd; subst hd; exact hc
  · have hstop : Stop (kd c) f l a := by
      intro l' c' m' k' hg hh
      obtain ⟨ys, rfl⟩ := List.getLast?_eq_some_iff.1 hg
      exact hm ⟨ys, l', c', m', by rw [hh.2.1], hh.1, hh.2.2.1, hh.2.2.2⟩
    rw [step_new hstop]
    split <;> exact h0
theorem fold_ok : ∀ (u : List Nat) (f : List M4) (l a : Nat), okF f u.length → (∀ c ∈ u, c < 0x110000) → okF (u.foldl step (f, l, a)).1 0
  | [], f, l, a, h, _ => h
  | c :: u, f, l, a, h, hc => by
    rw [List.foldl_cons]
    exact fold_ok u _ _ _ (step_ok h (hc c (.head _))) fun d hd => hc d (.tail _ hd)
theorem sem__law_marks (ds : List D) (r : Rs) (x : Nat → List D → Rs → Prop) (q : D → Rs → Prop) (hl : ds.length = 1) (h : S__law_marks ds r x q) : den__law_marks (startE 7 ds) r (ktOf q x) := by
  obtain ⟨t, rfl, ⟨ht, hok⟩, hq⟩ := h
  have e0 : startE 7 [.str (tx t)] = [.val (.str (tx t)), .un, .un, .un, .un, .un, .un] := rfl
  have hs : sizeLine = 16777216 := rfl
  rw [e0]
  unfold den__law_marks
  rw [e_sp, e_nl]
  rw [← markB.eq_1]
  simp
  generalize hK : Kt.mk _ _ _ _ _ = k
  have key : ∀ (u : List Nat) (f : List M4) (l a : Nat) (d4 d5 : Sl), okF f u.length → (∀ c ∈ u, c < 0x110000) → 
      (∀ d4 d5, k.nx [.val (.str (tx t)), .own ((u.foldl step (f, l, a)).1.map mk4), .val (.int (u.foldl step (f, l, a)).2.1), .val (.int (u.foldl step (f, l, a)).2.2), d4, d5, .un] r) →
      forW (nmG 4) markB k (u.map fun c => D.str ⟨#[c]⟩) [.val (.str (tx t)), .own (f.map mk4), .val (.int l), .val (.int a), d4, d5, .un] r := by
    intro u
    induction u with
    | nil => intro f l a d4 d5 hf _ hk; unfold forW; exact hk d4 d5
    | cons c u ih =>
      intro f l a d4 d5 hf hc hk
      rw [List.map_cons]
      unfold forW
      rw [List.foldl_cons] at hk
      refine mark_step (n := u.length) hf ?_
      intro d4 d5
      exact ih _ _ _ d4 d5 (step_ok hf (hc c (.head _))) (fun d hd => hc d (.tail _ hd)) hk
  refine key t [] 0 0 .un .un ⟨by simpa using ht, fun p hp => nomatch hp⟩ hok ?_
  intro d4 d5
  subst hK
  have hfo := fold_ok t [] 0 0 ⟨by simpa using ht, fun p hp => nomatch hp⟩ hok
  have hfr := fold_runs t
  generalize (t.foldl step ([], 0, 0)).1 = f at hfo hfr
  simp
  refine compW_fm (fun d => slcV d none (some 3)) _ _ ?_ ?_ ?_
  · have := hfo.1; rw [hs]; simp; omega
  · intro d hd Qn Qy hh
    obtain ⟨p, -, rfl⟩ := List.mem_map.1 hd
    simp [mk4] at hh
    simpa [mk4] using hh
  · have e : (f.map mk4).filterMap (fun d => slcV d none (some 3)) = marksD t := by
      unfold marksD
      rw [← hfr, List.filterMap_map, List.map_map]
      rw [show ((fun d => slcV d none (some 3)) ∘ mk4) = fun p : M4 => some (mk3 (p.1, p.2.1, p.2.2.1)) from rfl]
      rw [List.filterMap_eq_map' ]
      rfl
    rw [List.nil_append, e]
    exact hq
end K05

/-! pieces of text, the law -/
namespace Nv
open PySem PySem.Spec PyProof.Rows L2
/-- a comprehension whose items are drawn -/
theorem compW_inv {tg : DG} {t : DT} {elt : DE} {env0 : En} {q : List D → Rs → Prop} (I : Rs → Prop) (P : D → Prop) : ∀ (ds acc : List D) (r : Rs), I r → acc.length + ds.length ≤ sizeLine → (∀ y ∈ acc, P y) →
    (∀ d ∈ ds, ∀ (r : Rs) (Qn : Rs → Prop) (Qy : D → Rs → Prop), I r → (∀ y r', P y → I r' → Qy y r') → (∀ r', I r' → Qn r') → tg d env0 fun env => t env r (fun _ _ _ _ => False) fun c r1 => if c then elt env r1 (fun _ _ _ _ => False) Qy else Qn r1) →
    (∀ zs r', zs.length ≤ acc.length + ds.length → (∀ y ∈ zs, P y) → I r' → q zs r') → compW tg t elt env0 q ds acc r
  | [], acc, r, hi, _, ha, _, hq => by unfold compW; exact hq acc r (by simp) ha hi
  | d :: ds, acc, r, hi, hl, ha, hs, hq => by
    have hl' : acc.length + ds.length + 1 ≤ sizeLine := by simp at hl; omega
    unfold compW
    refine hs d (.head _) r _ _ hi ?_ ?_
    · intro y r' hy hr'
      refine ⟨by omega, compW_inv I P ds (acc ++ [y]) r' hr' (by simp; omega) ?_ (fun d hd => hs d (.tail _ hd)) ?_⟩
      · intro z hz
        rcases List.mem_append.1 hz with hz | hz
        · exact ha z hz
        · simp at hz; subst hz; exact hy
      · intro zs r' hz
        exact hq zs r' (by simp at hz ⊢; omega)
    · intro r' hr'
      exact compW_inv I P ds acc r' hr' (by omega) ha (fun d hd => hs d (.tail _ hd)) fun zs r' hz => hq zs r' (by simp; omega)
@[simp] theorem rangeOf_len (lo : Int) (n : Nat) : (rangeOf lo n).length = n := by simp [rangeOf]
end Nv
namespace K05
open PySem PySem.Spec PyProof.Rows L2 Nv
def strD (m : List Nat) : D := .str (tx m)
theorem strsOf_tx : ∀ ms : List (List Nat), strsOf (ms.map strD) = some (ms.map tx)
  | [] => rfl
  | m :: ms => by simp [strD, strsOf_tx ms]
theorem strs_of_all {P : List Nat → Prop} : ∀ zs : List D, (∀ y ∈ zs, ∃ m, y = strD m ∧ P m) → ∃ ms : List (List Nat), zs = ms.map strD ∧ ∀ m ∈ ms, P m
  | [], _ => ⟨[], rfl, fun m h => nomatch h⟩
  | z :: zs, h => by
    obtain ⟨m, rfl, hm⟩ := h _ (.head _)
    obtain ⟨ms, rfl, hms⟩ := strs_of_all zs fun y hy => h y (.tail _ hy)
    exact ⟨m :: ms, rfl, fun n hn => by rcases List.mem_cons.1 hn with rfl | hn; exact hm; exact hms n hn⟩
theorem joinF_tx (sep : List Nat) (ms : List (List Nat)) (h : (ms.map List.length).sum + ms.length * sep.length ≤ 16777216) : joinF (.str (tx sep)) [.lst (ms.map strD)] = some (.str (tx (TL.joinL sep ms))) := by
  unfold joinF
  simp only [strsOf_tx]
  have e : (ms.map tx).map (·.length) = ms.map List.length := by rw [List.map_map]; exact List.map_congr_left fun m _ => tx_len m
  rw [if_pos (by rw [e, tx_len, List.length_map]; exact h)]
  congr 2
  refine TL.ext_tl ?_
  rw [TL.join_eq, TL.tl_join, List.map_map]
  have : (TL.tl ∘ tx) = id := by funext m; rfl
  rw [this, List.map_id]
theorem joinL_nil : ∀ ms : List (List Nat), TL.joinL [] ms = ms.flatten
  | [] => rfl
  | [m] => by simp [TL.joinL]
  | m :: n :: ms => by rw [TL.joinL, joinL_nil (n :: ms)]; simp
theorem joinL_sp : ∀ ms : List (List Nat), TL.joinL [32] ms = joinSp ms
  | [] => rfl
  | [m] => by simp [TL.joinL, joinSp]
  | m :: n :: ms => by rw [TL.joinL, joinL_sp (n :: ms), joinSp]; simp
theorem sum_le {k : Nat} : ∀ ms : List (List Nat), (∀ m ∈ ms, m.length ≤ k) → (ms.map List.length).sum ≤ ms.length * k
  | [], _ => by simp
  | m :: ms, h => by
    have h1 := h m (.head _)
    have h2 := sum_le ms fun n hn => h n (.tail _ hn)
    simp [Nat.add_mul]; omega
theorem draw_mk {r : Rs} {x : Nat → List D → Rs → Prop} {q : D → Rs → Prop} {m : Int} (hh : IsHeap r) (h0 : 0 < m) (h1 : m < 1073741824) (h : ∀ (j : Nat) (r' : Rs), (j : Int) < m → IsHeap r' → q (.int j) r') : S__law_draw [.ref 1, .int m] r x q :=
  ⟨m, rfl, hh, h0, h1, fun j r' a b c => by obtain ⟨n, rfl⟩ := Int.eq_ofNat_of_zero_le a; exact h n r' b c⟩
theorem pick_mk {r : Rs} {x : Nat → List D → Rs → Prop} {q : D → Rs → Prop} {xs : List D} (hh : IsHeap r) (h0 : xs ≠ []) (h1 : xs.length < 1000) (h : ∀ y ∈ xs, ∀ r', IsHeap r' → q y r') : S__law_pick [.ref 1, .lst xs] r x q := ⟨xs, rfl, h0, h1, hh, h⟩
def okS : D → Bool
  | .str s => decide (s.cps.toList.length ≤ 40) && s.cps.toList.all (· < 0x110000)
  | _ => false
theorem e_nil : ("" : Str) = tx [] := by decide +kernel
theorem e_abc : ("abcxyznoru" : Str) = tx [97, 98, 99, 120, 121, 122, 110, 111, 114, 117] := by decide +kernel
theorem e_dig : ("0123456789" : Str) = tx [48, 49, 50, 51, 52, 53, 54, 55, 56, 57] := by decide +kernel
/-- a sign drawn from a text -/
theorem sign_at {g : List Nat} (j : Nat) (hj : j < g.length) (hg : g.all (· < 0x110000) = true) : ∃ c, L2.atI g (j : Int) = some c ∧ c < 0x110000 := by
  refine ⟨g[j], ?_, ?_⟩
  · rw [Nv.atI_get]; exact ⟨j, ixN_ofNat hj, List.getElem?_eq_getElem hj⟩
  · have := List.all_eq_true.1 hg _ (List.getElem_mem hj); simpa using this
theorem draws {r : Rs} {n : Nat} {g : List Nat} {env : En} {v : Nat} {q : List D → Rs → Prop} (hn : n ≤ 40) (hr : IsHeap r) (hg : g.length = 10 ∧ g.all (· < 0x110000) = true) (he : ∀ d, (env.set v (.val d))[0]? = some (.val (.ref 1)))
    (h : ∀ (ms : List (List Nat)) r', ms.length ≤ n → (∀ m ∈ ms, m.length ≤ 1 ∧ ∀ c ∈ m, c < 0x110000) → IsHeap r' → q (ms.map strD) r') :
    compW (nmG v) yesT (opD idxV (cD (.str (tx g))) (callD S__law_draw (consA (varD 0) (consA (cD (.int 10)) nilA)))) env q (rangeOf 0 n) [] r := by
  have hs : sizeLine = 16777216 := rfl
  refine compW_inv IsHeap (fun y => ∃ m, y = strD m ∧ (m.length ≤ 1 ∧ ∀ c ∈ m, c < 0x110000)) _ _ _ hr (by rw [hs]; simp; omega) (fun y h => nomatch h) ?_ ?_
  · intro d _ r Qn Qy hr hy _
    simp only [nmG, yesT, opD, cD, callD, consA, varD, nilA, he, if_true]
    refine draw_mk hr (by decide) (by decide) ?_
    intro j r' hj hr'
    obtain ⟨c, hc, hc'⟩ := sign_at j (by omega) hg.2
    have hz : (10 : Nat) ≤ sizeLine := by rw [hs]; decide
    simp [hc, hg.1, hz]
    exact hy _ _ ⟨[c], rfl, by simp, by simpa using hc'⟩ hr'
  · intro zs r' hz hp hr'
    obtain ⟨ms, rfl, hms⟩ := strs_of_all zs hp
    exact h ms r' (by simpa using hz) hms hr'
theorem flat_len {n k : Nat} {ms : List (List Nat)} (hn : ms.length ≤ n) (h : ∀ m ∈ ms, m.length ≤ k) : ms.flatten.length ≤ n * k := by
  rw [List.length_flatten]
  exact Nat.le_trans (sum_le ms h) (Nat.mul_le_mul_right k hn)
theorem word {g : List Nat} {a b c : Int} {d1 : D} {r : Rs} {x : Xk} {q : D → Rs → Prop} (ha : 0 < a ∧ a < 40) (hb : 0 < b ∧ b < 40) (hc : 0 < c ∧ c < 40) (hg : g.length = 10 ∧ g.all (· < 0x110000) = true) (hr : IsHeap r)
    (hq : ∀ t : List Nat, t.length ≤ 40 → (∀ c ∈ t, c < 0x110000) → ∀ r', IsHeap r' → q (.str (tx t)) r') :
    methD joinF (cD (.str (tx []))) (consA (compD (rng1I (opD addD (cD (.int 1)) (callD S__law_draw (consA (varD 0) (consA (callD S__law_pick (consA (varD 0) (consA (lstD (consA (cD (.int a)) (consA (cD (.int b)) (consA (cD (.int c)) nilA)))) nilA))) nilA))))) (nmG 3) (yesT) (opD idxV (cD (.str (tx g))) (callD S__law_draw (consA (varD 0) (consA (cD (.int 10)) nilA)))) [3]) nilA)
      [.val (.ref 1), .val d1, .un, .un] r x q := by
  have hs : sizeLine = 16777216 := rfl
  simp only [methD, cD, consA, compD, rng1I, opD, callD, varD, lstD, nilA, List.getElem?_cons_zero]
  refine ⟨by rw [hs]; simp, ?_⟩
  refine pick_mk hr (by simp) (by simp) ?_
  intro y hy r2 hr2
  have hy' : ∃ n : Int, y = .int n ∧ 0 < n ∧ n < 40 := by
    simp at hy
    rcases hy with rfl | rfl | rfl
    · exact ⟨_, rfl, ha⟩
    · exact ⟨_, rfl, hb⟩
    · exact ⟨_, rfl, hc⟩
  obtain ⟨n, rfl, h0, h1⟩ := hy'
  refine draw_mk hr2 (by omega) (by omega) ?_
  intro j r3 hj hr3
  simp only [deref, addD, Th]
  refine ⟨by omega, ?_⟩
  refine draws (by omega) hr3 hg (fun d => by simp) ?_
  intro ms r4 hl hms hr4
  have hfl := flat_len (k := 1) hl fun m hm => (hms m hm).1
  have hsum := sum_le (k := 1) ms fun m hm => (hms m hm).1
  simp only [List.map_cons, List.map_nil, deref]
  rw [joinF_tx _ _ (by simp; omega)]
  simp only [joinL_nil]
  refine hq _ (by omega) ?_ r4 hr4
  intro c hc
  obtain ⟨m, hm, hcm⟩ := List.mem_flatten.1 hc
  exact (hms m hm).2 c hcm
theorem repS_tx (c : Nat) (n : Nat) : repS (tx [c]) n = tx (List.replicate n c) := by
  unfold repS
  simp [tx]
theorem sem__law_piece (ds : List D) (r : Rs) (x : Nat → List D → Rs → Prop) (q : D → Rs → Prop) (hl : ds.length = 1) (h : S__law_piece ds r x q) : den__law_piece (startE 4 ds) r (ktOf q x) := by
  obtain ⟨rfl, hh, hq⟩ := h
  have e0 : startE 4 [.ref 1] = [.val (.ref 1), .un, .un, .un] := rfl
  have hs : sizeLine = 16777216 := rfl
  rw [e0]
  unfold den__law_piece
  rw [e_nil, e_abc, e_dig]
  rw [seqS, setS]
  simp only [callD, consA, varD, cD, nilA, List.getElem?_cons_zero]
  refine draw_mk hh (by decide) (by decide) ?_
  intro j r1 hj hr1
  simp only [List.set_cons_zero, List.set_cons_succ]
  rw [seqS, ifS]
  simp only [cmpT, varD, cD, List.getElem?_cons_zero, List.getElem?_cons_succ, deref, ltB, Th]
  by_cases h2 : (j : Int) < 2
  · simp only [h2, decide_true, if_true, retS]
    exact word (by decide) (by decide) (by decide) (by decide) hr1 hq
  · simp only [h2, decide_false, Bool.false_eq_true, if_false, skipS]
    rw [seqS, ifS]
    simp only [cmpT, varD, cD, List.getElem?_cons_zero, List.getElem?_cons_succ, deref, ltB, Th]
    by_cases h4 : (j : Int) < 4
    · simp only [h4, decide_true, if_true, retS]
      exact word (by decide) (by decide) (by decide) (by decide) hr1 hq
    · simp only [h4, decide_false, Bool.false_eq_true, if_false, skipS]
      rw [seqS, ifS]
      simp only [cmpT, varD, cD, List.getElem?_cons_zero, List.getElem?_cons_succ, deref, eqB_int, Th]
      by_cases h5 : (j : Int) = 4
      · simp only [h5, decide_true, if_true, retS, opD, callD, consA, cD, nilA, varD, List.getElem?_cons_zero]
        refine draw_mk hr1 (by decide) (by decide) ?_
        intro i r2 hi hr2
        have e1 : (" " : Str) = tx [32] := e_sp
        rw [e1]
        have h6 : (0 : Int) ≤ 1 + (i : Int) ∧ 1 + (i : Int) ≤ 100000 := by omega
        have e7 : (1 + (i : Int)).toNat = i + 1 := by omega
        simp [h6, repS_tx, e7, ktOf]
        refine hq _ (by simp; omega) ?_ r2 hr2
        intro c hc
        have := (List.mem_replicate.1 hc).2
        omega
      · simp only [h5, decide_false, Bool.false_eq_true, if_false, skipS]
        simp [hs]
        refine pick_mk hr1 (by simp) (by simp) ?_
        intro y hy r2 hr2
        generalize hL : ([_, _, _, _, _, _, _, _, _, _, _, _, _, _, _, _, _, _, _, _, _, _, _, _, _] : List D) = L at hy
        have hall : L.all okS = true := by rw [← hL]; decide +kernel
        have := List.all_eq_true.1 hall y hy
        cases y with
        | str s =>
          simp only [okS, Bool.and_eq_true, decide_eq_true_eq, List.all_eq_true] at this
          exact hq s.cps.toList this.1 this.2 r2 hr2
        | _ => simp [okS] at this
end K05

/-! the law answers True -/
namespace Nv
open PySem PySem.Spec PyProof.Rows L2
theorem weight_all_le {k : Nat} {ps : List PyData} (h : ∀ p ∈ ps, p.weight ≤ k) : PyData.weightAll ps ≤ ps.length * (k + 1) := by
  induction ps with
  | nil => simp [PyData.weightAll]
  | cons p ps ih =>
    have h1 := h p (.head _)
    have h2 := ih fun q hq => h q (.tail _ hq)
    simp [PyData.weightAll, Nat.add_mul]; omega
theorem weight_int {i : Nat} (h : i ≤ 65535) : (PyData.int (i : Int)).weight ≤ 17 := by
  simp only [PyData.weight]
  split
  · omega
  · have : Int.natAbs (i : Int) = i := by omega
    rw [this]
    have h2 : i.log2 < 16 := by
      by_cases h0 : i = 0
      · subst h0; decide
      · exact (Nat.log2_lt h0).2 (by omega)
    omega
/-- a datum's repr: what it needs -/
theorem reprOf_some {d : D} {p : PyData} (h : d.py = some p) (h1 : p.showable = true) (h2 : p.canLay0 = true) (h3 : p.depth ≤ 60) (h4 : p.weight ≤ 2 ^ 20) (h5 : p.intsShort 13 = true) : ∃ s, reprOf d = some s := by
  unfold reprOf
  rw [h]
  have hl : p.layable0 = true := by
    unfold PyData.layable0
    rw [h2]
    simp; omega
  have hz := shown_le13 hl h5
  have hd := PyData.hasDict_of_canLay p h2
  have hs : sizeLine = 16777216 := rfl
  have : p.shown.length ≤ sizeLine := by rw [hs]; omega
  simp [h1, hd, h3, this]
end Nv
namespace K05
open PySem PySem.Spec PyProof.Rows L2 Nv
def py3 (p : Nat × Nat × List Nat) : PyData := .tuple [.int p.1, .int p.2.1, .str (tx p.2.2)]
theorem mk3_py (p : Nat × Nat × List Nat) : (mk3 p).py = some (py3 p) := by simp [mk3, D.py, D.pyAll, py3]
theorem place_bound : ∀ (ms : List (List Nat)) (l c : Nat), ∀ p ∈ place l c ms, p.1 ≤ l + ms.length ∧ p.2.1 ≤ c + ms.flatten.length ∧ p.2.2 ∈ ms
  | [], _, _, p, h => by simp [place] at h
  | m :: ms, l, c, p, h => by
    rw [place] at h
    rcases List.mem_append.1 h with h | h
    · split at h
      · cases h
      · simp at h; subst h; simp
    · split at h
      · have := place_bound ms _ _ p h
        refine ⟨by rw [List.length_cons]; omega, by rw [List.flatten_cons, List.length_append]; omega, .tail _ this.2.2⟩
      · have := place_bound ms _ _ p h
        refine ⟨by rw [List.length_cons]; omega, by rw [List.flatten_cons, List.length_append]; omega, .tail _ this.2.2⟩
theorem place_len : ∀ (ms : List (List Nat)) (l c : Nat), (place l c ms).length ≤ ms.length
  | [], _, _ => by simp [place]
  | m :: ms, l, c => by
    rw [place, List.length_append]
    have h1 := place_len ms (l + 1) 0
    have h2 := place_len ms l (c + m.length)
    split <;> split <;> simp <;> omega
theorem runs_len (t : List Nat) : (runs t).length ≤ t.length := by
  have h := congrArg List.length (runs_flat t)
  have : ∀ ms : List (List Nat), (∀ m ∈ ms, Atom m) → ms.length ≤ ms.flatten.length := by
    intro ms
    induction ms with
    | nil => intro _; simp
    | cons m ms ih =>
      intro hm
      obtain ⟨c, w, rfl, _⟩ := hm m (.head _)
      have := ih fun n hn => hm n (.tail _ hn)
      simp at this ⊢; omega
  have := this _ (runs_atom t)
  omega
theorem mem_runs {t m : List Nat} (h : m ∈ runs t) : ∀ c ∈ m, c ∈ t := by
  intro c hc
  have := List.mem_flatten.2 ⟨m, h, hc⟩
  rwa [runs_flat] at this
theorem run_le {t m : List Nat} (h : m ∈ runs t) : m.length ≤ t.length := by
  have h1 := congrArg List.length (runs_flat t)
  have : ∀ ms : List (List Nat), m ∈ ms → m.length ≤ ms.flatten.length := by
    intro ms
    induction ms with
    | nil => intro h; cases h
    | cons n ms ih =>
      intro h
      rcases List.mem_cons.1 h with rfl | h
      · simp
      · have := ih h; simp at this ⊢; omega
  have := this _ h
  omega
theorem weight_py3 {p : Nat × Nat × List Nat} (h1 : p.1 ≤ 65535) (h2 : p.2.1 ≤ 65535) : (py3 p).weight ≤ 37 + p.2.2.length := by
  have a := weight_int h1
  have b := weight_int h2
  simp only [py3, PyData.weight, PyData.weightAll] at a b ⊢
  simp at a b ⊢
  omega
theorem place_weight : ∀ (ms : List (List Nat)) (l c : Nat), l + ms.length ≤ 65535 → c + ms.flatten.length ≤ 65535 → PyData.weightAll ((place l c ms).map py3) ≤ 38 * ms.length + ms.flatten.length
  | [], _, _, _, _ => by simp [place, PyData.weightAll]
  | m :: ms, l, c, hl, hc => by
    rw [List.flatten_cons, List.length_append] at hc ⊢
    rw [List.length_cons] at hl ⊢
    have h1 := place_weight ms (l + 1) 0 (by omega) (by omega)
    have h2 := place_weight ms l (c + m.length) (by omega) (by omega)
    have h3 := weight_py3 (p := (l, c, m)) (by simp; omega) (by simp; omega)
    simp at h3
    rw [place]
    split <;> split <;> simp only [List.nil_append, List.cons_append, List.map_cons, PyData.weightAll] <;> omega
theorem showAll_of {ps : List PyData} (h : ∀ p ∈ ps, p.showable = true) : PyData.showableAll ps = true := by
  induction ps with
  | nil => rfl
  | cons p ps ih => simp only [PyData.showableAll, h p (.head _), ih fun q hq => h q (.tail _ hq), Bool.and_self]
theorem shortAll_of {k : Nat} {ps : List PyData} (h : ∀ p ∈ ps, p.intsShort k = true) : PyData.intsShortAll k ps = true := by
  induction ps with
  | nil => rfl
  | cons p ps ih => simp only [PyData.intsShortAll, h p (.head _), ih fun q hq => h q (.tail _ hq), Bool.and_self]
theorem showable_nat {i : Nat} (h : i ≤ 65535) : (PyData.int (i : Int)).showable = true := by
  simp only [PyData.showable, decide_eq_true_eq]
  have : Int.natAbs (i : Int) = i := by omega
  rw [this]
  by_cases h0 : i = 0
  · subst h0; decide
  · have := (Nat.log2_lt h0 (k := 16)).2 (by omega)
    omega
theorem marks_repr {t : List Nat} (h : okT t) (hl : t.length ≤ 4000) : ∃ s, reprOf (.tup (marksD t)) = some s := by
  have hb := place_bound (runs t) 0 0
  have hn := place_len (runs t) 0 0
  have hr := runs_len t
  have hf := runs_flat t
  have e : (D.tup (marksD t)).py = some (.tuple ((place 0 0 (runs t)).map py3)) := by
    simp only [D.py, marksD, pyAll_map mk3_py, Option.map_some]
  have ok : ∀ p ∈ place 0 0 (runs t), p.1 ≤ 4000 ∧ p.2.1 ≤ 4000 ∧ ∀ c ∈ p.2.2, c < 0x110000 := by
    intro p hp
    have := hb p hp
    rw [hf] at this
    exact ⟨by omega, by omega, fun c hc => h.2 c (mem_runs this.2.2 c hc)⟩
  refine reprOf_some e ?_ ?_ ?_ ?_ ?_
  · simp only [PyData.showable]
    refine showAll_of fun p hp => ?_
    obtain ⟨m, hm, rfl⟩ := List.mem_map.1 hp
    have := ok m hm
    simp only [py3, PyData.showable, PyData.showableAll]
    have h1 := showable_nat (i := m.1) (by omega)
    have h2 := showable_nat (i := m.2.1) (by omega)
    simp only [PyData.showable] at h1 h2
    simp at h1 h2
    simp [h1, h2]
  · simp only [PyData.canLay0]
    refine layAll_of fun p hp => ?_
    obtain ⟨m, hm, rfl⟩ := List.mem_map.1 hp
    simp [py3, PyData.canLay0, PyData.canLayAll0, tx_ok (ok m hm).2.2]
  · simp only [PyData.depth]
    have : PyData.depthAll ((place 0 0 (runs t)).map py3) ≤ 5 := depthAll_of fun p hp => by
      obtain ⟨m, hm, rfl⟩ := List.mem_map.1 hp
      simp [py3, PyData.depth, PyData.depthAll]
    omega
  · simp only [PyData.weight]
    have := place_weight (runs t) 0 0 (by omega) (by rw [hf]; omega)
    rw [hf] at this
    omega
  · simp only [PyData.intsShort]
    refine shortAll_of fun p hp => ?_
    obtain ⟨m, hm, rfl⟩ := List.mem_map.1 hp
    have := ok m hm
    have h1 := PyData.shown_int_le (i := (m.1 : Int)) (by omega)
    have h2 := PyData.shown_int_le (i := (m.2.1 : Int)) (by omega)
    simp [py3, PyData.intsShort, PyData.intsShortAll, h1, h2]
def lawC : DS := (seqS (setS 4 (bltD tupF (consA (callD S__law_marks (consA (varD 3) nilA)) nilA)))
    (seqS (setS 5 (callD S_marks_of (consA (varD 3) nilA)))
    (seqS (ifS (orT (cmpT neB (bltD reprF (consA (varD 5) nilA)) (bltD reprF (consA (varD 4) nilA))) (cmpT neB (callKD S_marks_of (kwPut ["text"] ["text"]) (nilA) (consA (varD 3) nilA)) (varD 5))) (retS (cD (.bl false))) (skipS))
    (seqS (setS 6 (methD joinF (cD (.str (tx [32]))) (consA (compD (seqI (varD 4)) (tupG (consG (nmG 8) (consG (nmG 9) (consG (nmG 10) (nilG))))) (yesT) (varD 10) [8, 9, 10]) nilA)))
    (ifS (cmpT neB (compD (seqI (callD S_marks_of (consA (varD 6) nilA))) (tupG (consG (nmG 8) (consG (nmG 9) (consG (nmG 10) (nilG))))) (yesT) (varD 10) [8, 9, 10]) (compD (seqI (varD 4)) (tupG (consG (nmG 8) (consG (nmG 9) (consG (nmG 10) (nilG))))) (yesT) (varD 10) [8, 9, 10])) (retS (cD (.bl false))) (skipS))))))
def lawB : DS := (seqS (setS 3 (methD joinF (cD (.str (tx []))) (consA (compD (rng1I (callD S__law_pick (consA (varD 1) (consA (lstD (consA (cD (.int 5)) (consA (cD (.int 20)) (consA (cD (.int 1)) (consA (cD (.int 60)) (consA (cD (.int 0)) nilA)))))) nilA)))) (nmG 7) (yesT) (callD S__law_piece (consA (varD 1) nilA)) [7]) nilA)))
    (seqS (setS 3 (ifD (cmpT eqB (callD S__law_draw (consA (varD 1) (consA (cD (.int 5)) nilA))) (cD (.int 0))) (opD addD (opD addD (opD addD (opD addD (opD mulD (cD (.str (tx [55]))) (cD (.int 390))) (cD (.str (tx [32])))) (varD 3)) (cD (.str (tx [58])))) (opD mulD (cD (.str (tx [49, 50]))) (cD (.int 190)))) (varD 3)))
    lawC))
theorem e_co : (":" : Str) = tx [58] := by decide +kernel
theorem e_7 : ("7" : Str) = tx [55] := by decide +kernel
theorem e_12 : ("12" : Str) = tx [49, 50] := by decide +kernel
theorem repS_tx2 (g : List Nat) (n : Nat) : repS (tx g) n = tx (List.replicate n g).flatten := rfl
def texts (t : List Nat) : List (List Nat) := (runs t).filter (· ≠ [32])
theorem third_marks (t : List Nat) : (marksD t).filterMap (fun d => match d with | .tup [_, _, y] => some y | _ => none) = (texts t).map strD := by
  unfold marksD texts
  rw [← place_third (runs t) 0 0, List.filterMap_map, List.map_map]
  rw [show ((fun d => match d with | .tup [_, _, y] => some y | _ => none) ∘ mk3) = fun p : Nat × Nat × List Nat => some (strD p.2.2) from rfl]
  rw [List.filterMap_eq_map']
  rfl
theorem comp_third {t : List Nat} {e0 e1 e2 e3 e4 e5 e6 e7 e8 e9 e10 : Sl} {r : Rs} {q : List D → Rs → Prop} (ht : t.length ≤ 20000) (h : q ((texts t).map strD) r) :
    compW (tupG (consG (nmG 8) (consG (nmG 9) (consG (nmG 10) (nilG))))) (yesT) (varD 10) [e0, e1, e2, e3, e4, e5, e6, e7, e8, e9, e10] q (marksD t) [] r := by
  have hs : sizeLine = 16777216 := rfl
  have hn := place_len (runs t) 0 0
  have hr := runs_len t
  refine compW_fm (fun d => match d with | .tup [_, _, y] => some y | _ => none) _ _ ?_ ?_ ?_
  · simp [marksD]; omega
  · intro d hd Qn Qy hh
    obtain ⟨p, -, rfl⟩ := List.mem_map.1 hd
    simp [mk3] at hh
    simpa [mk3] using hh
  · rw [third_marks]; exact h
theorem neB_same {d : D} {p : PyData} (h : d.py = some p) (hs : SeqAt.shaped p = true) (hd : eqD d d = eqP d d) : neB d d = some false := by
  unfold neB
  rw [hd]
  unfold eqP
  rw [h]
  simp only [hs, Bool.and_self, if_true, Option.map_some]
  rw [SeqAt.eqv_refl p (SeqAt.canLay_of_shaped hs)]
  rfl
theorem ne_marks {t : List Nat} (h : okT t) : neB (.tup (marksD t)) (.tup (marksD t)) = some false := by
  refine neB_same (p := .tuple ((place 0 0 (runs t)).map py3)) (by simp only [D.py, marksD, pyAll_map mk3_py, Option.map_some]) (shaped_tup fun p hp => ?_) rfl
  obtain ⟨m, hm, rfl⟩ := List.mem_map.1 hp
  have := (place_bound (runs t) 0 0 m hm).2.2
  simp [py3, PyData.canLay0, PyData.canLayAll0, PyData.depth, PyData.depthAll, tx_ok fun c hc => h.2 c (mem_runs this c hc)]
theorem ne_texts {t : List Nat} (h : okT t) : neB (.lst ((texts t).map strD)) (.lst ((texts t).map strD)) = some false := by
  refine neB_same (p := .list ((texts t).map fun m => .str (tx m))) (by simp only [D.py, pyAll_map (P := fun m => .str (tx m)) (F := strD) fun m => rfl, Option.map_some]) (shaped_list fun p hp => ?_) rfl
  obtain ⟨m, hm, rfl⟩ := List.mem_map.1 hp
  have := (List.mem_filter.1 hm).1
  simp [PyData.canLay0, PyData.depth, tx_ok fun c hc => h.2 c (mem_runs this c hc)]
theorem texts_join (t : List Nat) : texts (joinSp (texts t)) = texts t :=
  runs_join _ (fun m hm => runs_atom t m (List.mem_filter.1 hm).1) fun m hm => by simpa using (List.mem_filter.1 hm).2
theorem texts_len (t : List Nat) : ((texts t).map List.length).sum ≤ t.length ∧ (texts t).length ≤ t.length := by
  have h1 : ∀ ms : List (List Nat), ((ms.filter (· ≠ [32])).map List.length).sum ≤ ms.flatten.length := by
    intro ms
    induction ms with
    | nil => simp
    | cons m ms ih =>
      rw [List.filter_cons, List.flatten_cons, List.length_append]
      split
      · rw [List.map_cons, List.sum_cons]; omega
      · omega
  refine ⟨?_, ?_⟩
  · have := h1 (runs t); rwa [runs_flat] at this
  · exact Nat.le_trans (List.length_filter_le _ _) (runs_len t)
theorem joinSp_len : ∀ ms : List (List Nat), (joinSp ms).length ≤ (ms.map List.length).sum + ms.length
  | [] => by simp [joinSp]
  | [m] => by simp [joinSp]
  | m :: n :: ms => by
    have := joinSp_len (n :: ms)
    rw [joinSp, List.length_append, List.length_cons]
    rw [List.map_cons, List.sum_cons, List.length_cons]
    omega
theorem lawC_ok {s0 e2 e4 e5 e6 e7 e8 e9 e10 : Sl} {r : Rs} {k : Kt} {t : List Nat} (ht : okT t) (hl : t.length ≤ 4000) (hr : IsHeap r)
    (hk : ∀ e2 e3 e4 e5 e6 e7 e8 e9 e10 r', IsHeap r' → k.nx [s0, .val (.ref 1), e2, e3, e4, e5, e6, e7, e8, e9, e10] r') :
    lawC [s0, .val (.ref 1), e2, .val (.str (tx t)), e4, e5, e6, e7, e8, e9, e10] r k := by
  have hs : sizeLine = 16777216 := rfl
  obtain ⟨z, hz⟩ := marks_repr ht hl
  have hn := texts_len t
  have hj := joinSp_len (texts t)
  have htz : t.length < sizeLine := by rw [hs]; omega
  unfold lawC
  rw [seqS, setS]
  simp only [bltD, consA, callD, varD, nilA, List.getElem?_cons_zero, List.getElem?_cons_succ]
  refine ⟨t, rfl, ht, ?_⟩
  simp only [List.map_cons, List.map_nil, deref, tupF, Th, List.set_cons_zero, List.set_cons_succ]
  rw [seqS, setS]
  simp only [callD, consA, varD, nilA, List.getElem?_cons_zero, List.getElem?_cons_succ]
  refine ⟨t, rfl, htz, ?_⟩
  simp only [List.set_cons_zero, List.set_cons_succ]
  rw [seqS, ifS]
  simp only [orT, cmpT, bltD, callKD, callD, consA, varD, nilA, List.getElem?_cons_zero, List.getElem?_cons_succ, List.map_cons, List.map_nil, deref, reprF, hz, Option.map_some, Th, neB_str, decide_true, Bool.not_true, Bool.false_eq_true, if_false]
  refine ⟨t, rfl, htz, ?_⟩
  simp only [deref, ne_marks ht, Th, Bool.false_eq_true, if_false, skipS]
  rw [seqS, setS]
  simp only [methD, cD, consA, compD, seqI, varD, nilA, wipeE, List.getElem?_cons_zero, List.getElem?_cons_succ, List.set_cons_zero, List.set_cons_succ]
  refine comp_third (by omega) ?_
  simp only [List.map_cons, List.map_nil, deref]
  rw [joinF_tx _ _ (by simp; omega)]
  simp only [joinL_sp, Th, List.set_cons_zero, List.set_cons_succ]
  rw [ifS]
  simp only [cmpT, compD, seqI, callD, consA, varD, nilA, wipeE, List.getElem?_cons_zero, List.getElem?_cons_succ, List.set_cons_zero, List.set_cons_succ]
  refine ⟨joinSp (texts t), rfl, by rw [hs]; omega, ?_⟩
  simp only []
  refine comp_third (by omega) ?_
  refine comp_third (by omega) ?_
  rw [texts_join]
  simp only [deref, ne_texts ht, Th, Bool.false_eq_true, if_false, skipS]
  exact hk _ _ _ _ _ _ _ _ _ _ hr
theorem addS {a b : List Nat} (h : a.length + b.length ≤ 10000) : addD (.str (tx a)) (.str (tx b)) = some (.str (tx (a ++ b))) := by
  have hs : sizeLine = 16777216 := rfl
  have : a.length + b.length ≤ sizeLine := by rw [hs]; omega
  simp [this]
theorem mul7 : mulD (.str (tx [55])) (.int 390) = some (.str (tx (List.replicate 390 [55]).flatten)) := by
  have : (0 : Int) ≤ 390 ∧ (390 : Int) ≤ 100000 ∧ (tx [55]).length ≤ 100 := by simp
  simp only [mulD, this, and_self, if_true, repS_tx2]
  rfl
theorem mul12 : mulD (.str (tx [49, 50])) (.int 190) = some (.str (tx (List.replicate 190 [49, 50]).flatten)) := by
  have : (0 : Int) ≤ 190 ∧ (190 : Int) ≤ 100000 ∧ (tx [49, 50]).length ≤ 100 := by simp
  simp only [mulD, this, and_self, if_true, repS_tx2]
  rfl
theorem lawB_ok {s0 e2 e3 e4 e5 e6 e7 e8 e9 e10 : Sl} {r : Rs} {k : Kt} (hr : IsHeap r)
    (hk : ∀ e2 e3 e4 e5 e6 e7 e8 e9 e10 r', IsHeap r' → k.nx [s0, .val (.ref 1), e2, e3, e4, e5, e6, e7, e8, e9, e10] r') :
    lawB [s0, .val (.ref 1), e2, e3, e4, e5, e6, e7, e8, e9, e10] r k := by
  have hs : sizeLine = 16777216 := rfl
  have h5s : 5 ≤ sizeLine := by rw [hs]; decide
  unfold lawB
  rw [seqS, setS]
  simp only [methD, cD, consA, compD, rng1I, callD, varD, lstD, nilA, List.getElem?_cons_zero, List.getElem?_cons_succ]
  refine ⟨by rw [hs]; simp, ?_⟩
  refine pick_mk hr (by simp) (by simp) ?_
  intro y hy r1 hr1
  have hy' : ∃ n : Nat, y = .int n ∧ n ≤ 60 := by
    simp at hy
    rcases hy with rfl | rfl | rfl | rfl | rfl
    · exact ⟨5, rfl, by decide⟩
    · exact ⟨20, rfl, by decide⟩
    · exact ⟨1, rfl, by decide⟩
    · exact ⟨60, rfl, by decide⟩
    · exact ⟨0, rfl, by decide⟩
  obtain ⟨n, rfl, hn⟩ := hy'
  simp only [wipeE, List.set_cons_zero, List.set_cons_succ, Int.toNat_natCast]
  refine ⟨by omega, ?_⟩
  refine compW_inv IsHeap (fun y => ∃ m, y = strD m ∧ (m.length ≤ 40 ∧ ∀ c ∈ m, c < 0x110000)) _ _ _ hr1 (by rw [hs]; simp; omega) (fun y h => nomatch h) ?_ ?_
  · intro d _ r Qn Qy hr hy _
    simp only [nmG, yesT, List.set_cons_zero, List.set_cons_succ, List.getElem?_cons_zero, List.getElem?_cons_succ, if_true]
    refine ⟨rfl, hr, ?_⟩
    intro t ht hc r' hr'
    exact hy _ _ ⟨t, rfl, ht, hc⟩ hr'
  intro zs r2 hz hp hr2
  obtain ⟨ms, rfl, hms⟩ := strs_of_all zs hp
  simp only [List.length_map, List.length_nil, rangeOf_len, Nat.zero_add] at hz
  have hfl := flat_len (k := 40) hz fun m hm => (hms m hm).1
  have hsum := sum_le (k := 40) ms fun m hm => (hms m hm).1
  simp only [List.map_cons, List.map_nil, deref]
  rw [joinF_tx _ _ (by simp; omega)]
  simp only [joinL_nil, Th]
  generalize ht0 : ms.flatten = t0 at hfl
  have hc0 : ∀ c ∈ t0, c < 0x110000 := by
    intro c hc
    rw [← ht0] at hc
    obtain ⟨m, hm, hcm⟩ := List.mem_flatten.1 hc
    exact (hms m hm).2 c hcm
  rw [seqS, setS, ifD]
  simp only [cmpT, cD, consA, callD, varD, nilA, List.getElem?_cons_zero, List.getElem?_cons_succ]
  refine draw_mk hr2 (by decide) (by decide) ?_
  intro j r3 hj hr3
  simp only [deref, eqB_int, Th]
  have ht0l : t0.length ≤ 2400 := by omega
  by_cases hj0 : (j : Int) = 0
  · have l7 : (List.replicate 390 [55]).flatten.length = 390 := by simp
    have l12 : (List.replicate 190 [49, 50]).flatten.length = 380 := by simp
    have hlen : ((((List.replicate 390 [55]).flatten ++ [32]) ++ t0) ++ [58] ++ (List.replicate 190 [49, 50]).flatten).length ≤ 4000 := by
      simp only [List.length_append, l7, l12, List.length_cons, List.length_nil]; omega
    simp only [hj0, decide_true, if_true, opD, cD, varD, List.getElem?_cons_zero, List.getElem?_cons_succ, List.set_cons_zero, List.set_cons_succ, deref, mul7, mul12, Th]
    rw [addS (by simp)]
    simp only [deref]
    rw [addS (by simp only [List.length_append, l7, List.length_cons, List.length_nil]; omega)]
    simp only [deref]
    rw [addS (by simp only [List.length_append, l7, List.length_cons, List.length_nil]; omega)]
    simp only [deref]
    rw [addS (by simp only [List.length_append, l7, l12, List.length_cons, List.length_nil]; omega)]
    simp only []
    refine lawC_ok ⟨by omega, ?_⟩ hlen hr3 hk
    intro c hc
    simp only [List.mem_append, List.mem_flatten, List.mem_replicate] at hc
    rcases hc with (((⟨l, ⟨_, rfl⟩, hc⟩ | hc) | hc) | hc) | ⟨l, ⟨_, rfl⟩, hc⟩
    · simp at hc; omega
    · simp at hc; omega
    · exact hc0 c hc
    · simp at hc; omega
    · simp at hc; omega
  · simp only [hj0, decide_false, Bool.false_eq_true, if_false, varD, List.getElem?_cons_zero, List.getElem?_cons_succ, List.set_cons_zero, List.set_cons_succ]
    exact lawC_ok ⟨by omega, hc0⟩ (by omega) hr3 hk
theorem m0 : marksD [] = [] := by simp [marksD, runs, place]
theorem m1 : marksD [32, 32] = [] := by simp [marksD, runs, place, same, kd, isL, isD]
theorem m2 : marksD [32, 10] = [mk3 (0, 1, [10])] := by simp [marksD, runs, place, same, kd, isL, isD]
theorem m3 : marksD [97, 110, 121, 58, 50, 32, 98, 10, 49, 50, 44, 45, 99, 51] = [mk3 (0, 0, [97, 110, 121]), mk3 (0, 3, [58]), mk3 (0, 4, [50]), mk3 (0, 6, [98]), mk3 (0, 7, [10]), mk3 (1, 0, [49, 50]), mk3 (1, 2, [44]), mk3 (1, 3, [45]), mk3 (1, 4, [99]), mk3 (1, 5, [51])] := by
  simp [marksD, runs, place, same, kd, isL, isD]
theorem marks_call {t : List Nat} {r : Rs} {x : Nat → List D → Rs → Prop} {q : D → Rs → Prop} (h : t.length < 100) (hq : q (.tup (marksD t)) r) : S_marks_of [.str (tx t)] r x q :=
  ⟨t, rfl, by have hs : sizeLine = 16777216 := rfl; omega, hq⟩
theorem e_2sp : ("  " : Str) = tx [32, 32] := by decide +kernel
theorem e_spnl : (" \n" : Str) = tx [32, 10] := by decide +kernel
theorem e_any : ("any:2 b\n12,-c3" : Str) = tx [97, 110, 121, 58, 50, 32, 98, 10, 49, 50, 44, 45, 99, 51] := by decide +kernel
theorem e_w1 : ("any" : Str) = tx [97, 110, 121] := by decide +kernel
theorem e_w2 : ("2" : Str) = tx [50] := by decide +kernel
theorem e_w3 : ("b" : Str) = tx [98] := by decide +kernel
theorem e_w4 : ("," : Str) = tx [44] := by decide +kernel
theorem e_w5 : ("-" : Str) = tx [45] := by decide +kernel
theorem e_w6 : ("c" : Str) = tx [99] := by decide +kernel
theorem e_w7 : ("3" : Str) = tx [51] := by decide +kernel
theorem okT_small {t : List Nat} (h : t.length ≤ 100 ∧ t.all (· < 0x110000) = true) : okT t := ⟨by omega, fun c hc => by have := List.all_eq_true.1 h.2 c hc; simpa using this⟩
theorem eq_marks {t : List Nat} (h : okT t) : eqB (.tup (marksD t)) (.tup (marksD t)) = some true := by
  have := ne_marks h
  unfold neB at this
  unfold eqB
  cases e : eqD (.tup (marksD t)) (.tup (marksD t)) with
  | none => rw [e] at this; cases this
  | some b => rw [e] at this; cases b <;> simp at this ⊢
theorem sem_law (ds : List D) (r : Rs) (x : Nat → List D → Rs → Prop) (q : D → Rs → Prop) (hl : ds.length = 1) (h : S_law ds r x q) : den_law (startE 11 ds) r (ktOf q x) := by
  obtain ⟨ns, rfl, hn, rfl, hq⟩ := h
  have e0 : startE 11 [.scr ns] = [.val (.scr ns), .un, .un, .un, .un, .un, .un, .un, .un, .un, .un] := rfl
  have hs : sizeLine = 16777216 := rfl
  rw [e0]
  unfold den_law
  rw [e_nil, e_sp, e_co, e_7, e_12, e_2sp, e_spnl, e_any, e_nl, e_w1, e_w2, e_w3, e_w4, e_w5, e_w6, e_w7]
  rw [← lawC.eq_1]
  rw [← lawB.eq_1]
  rw [seqS, setS]
  simp only [callD, consA, varD, nilA, List.getElem?_cons_zero]
  refine ⟨ns, rfl, by omega, rfl, ?_⟩
  intro r1 hr1
  simp only [List.set_cons_zero, List.set_cons_succ]
  rw [seqS, forS]
  have hrange : ∀ (env : En) (q' : List D → Rs → Prop) (x' : Xk), env[0]? = some (.val (.scr ns)) → (∀ n : Nat, q' (rangeOf 0 n) r1) → rng1I (opD addD (cD (.int 3)) (opD mulD (cD (.int 3)) (bltD intF (consA (opD (cmpV gtB) (bltD lenF (consA (varD 0) nilA)) (cD (.int 2))) nilA)))) env r1 x' q' := by
    intro env q' x' he hq'
    by_cases h : (2 : Int) < ns.length
    · simp [he, h]; exact hq' _
    · simp [he, h]; exact hq' _
  refine hrange _ _ _ rfl ?_
  intro n
  refine forW_inv (fun env r => ∃ e2 e3 e4 e5 e6 e7 e8 e9 e10, env = [.val (.scr ns), .val (.ref 1), e2, e3, e4, e5, e6, e7, e8, e9, e10] ∧ IsHeap r) _ ?_ ?_ _ _ ⟨_, _, _, _, _, _, _, _, _, rfl, hr1⟩
  · rintro d _ env r K ⟨e2, e3, e4, e5, e6, e7, e8, e9, e10, rfl, hr⟩ hK
    simp only [nmG, List.set_cons_zero, List.set_cons_succ]
    refine lawB_ok hr ?_
    intro e2 e3 e4 e5 e6 e7 e8 e9 e10 r' hr'
    exact hK _ _ ⟨_, _, _, _, _, _, _, _, _, rfl, hr'⟩
  · rintro env r ⟨e2, e3, e4, e5, e6, e7, e8, e9, e10, rfl, hr⟩
    simp only []
    rw [seqS, ifS]
    simp only [orT, cmpT, callD, consA, cD, tupD, nilA]
    have n0 := ne_marks (t := []) (okT_small (by decide))
    have n1 := ne_marks (t := [32, 32]) (okT_small (by decide))
    have n2 := ne_marks (t := [32, 10]) (okT_small (by decide))
    have n3 := eq_marks (t := [97, 110, 121, 58, 50, 32, 98, 10, 49, 50, 44, 45, 99, 51]) (okT_small (by decide))
    rw [m0] at n0
    rw [m1] at n1
    rw [m2] at n2
    rw [m3] at n3
    refine marks_call (by simp) ⟨by simp, ?_⟩
    rw [m0]
    simp only [deref, n0, Th, Bool.false_eq_true, if_false]
    refine marks_call (by simp) ⟨by simp, ?_⟩
    rw [m1]
    simp only [deref, n1, Th, Bool.false_eq_true, if_false]
    refine marks_call (by simp) ⟨by rw [hs]; decide, by rw [hs]; simp, ?_⟩
    rw [m2]
    have e2 : [mk3 (0, 1, [10])] = [D.tup [.int 0, .int 1, .str (tx [10])]] := rfl
    rw [← e2]
    simp only [deref, n2, Th, Bool.false_eq_true, if_false, skipS, retS, opD, callD, consA, cD, tupD, nilA]
    refine marks_call (by simp) ?_
    rw [m3]
    have sz : ∀ n : Nat, n ≤ 20 → n ≤ sizeLine := fun n h => by rw [hs]; omega
    refine ⟨sz _ (by simp), sz _ (by simp), sz _ (by simp), sz _ (by simp), sz _ (by simp), sz _ (by simp), sz _ (by simp), sz _ (by simp), sz _ (by simp), sz _ (by simp), sz _ (by simp), ?_⟩
    have n4 : cmpV eqB (.tup [mk3 (0, 0, [97, 110, 121]), mk3 (0, 3, [58]), mk3 (0, 4, [50]), mk3 (0, 6, [98]), mk3 (0, 7, [10]), mk3 (1, 0, [49, 50]), mk3 (1, 2, [44]), mk3 (1, 3, [45]), mk3 (1, 4, [99]), mk3 (1, 5, [51])])
        (.tup [mk3 (0, 0, [97, 110, 121]), mk3 (0, 3, [58]), mk3 (0, 4, [50]), mk3 (0, 6, [98]), mk3 (0, 7, [10]), mk3 (1, 0, [49, 50]), mk3 (1, 2, [44]), mk3 (1, 3, [45]), mk3 (1, 4, [99]), mk3 (1, 5, [51])]) = some (.bl true) := by unfold cmpV; rw [n3]; rfl
    have n5 : Th (cmpV eqB (.tup [mk3 (0, 0, [97, 110, 121]), mk3 (0, 3, [58]), mk3 (0, 4, [50]), mk3 (0, 6, [98]), mk3 (0, 7, [10]), mk3 (1, 0, [49, 50]), mk3 (1, 2, [44]), mk3 (1, 3, [45]), mk3 (1, 4, [99]), mk3 (1, 5, [51])])
        (.tup [mk3 (0, 0, [97, 110, 121]), mk3 (0, 3, [58]), mk3 (0, 4, [50]), mk3 (0, 6, [98]), mk3 (0, 7, [10]), mk3 (1, 0, [49, 50]), mk3 (1, 2, [44]), mk3 (1, 3, [45]), mk3 (1, 4, [99]), mk3 (1, 5, [51])])) (fun a => (ktOf q x).rt a r) := by rw [n4]; exact hq r
    exact n5
end K05

namespace K05
open PySem PySem.Spec PyProof.Rows L2 Nv
def topS (i : Nat) : Stmt := PySem.Challenge.pw_neverregret_k05_marks_cut_and_joined.main.body.getD i (.Pass ⟨0, 0, 0, 0⟩)
abbrev s_run_end : Stmt := topS 3
abbrev s_mark_at : Stmt := topS 4
abbrev s_marks_of : Stmt := topS 5
abbrev s__law_heap : Stmt := topS 7
abbrev s__law_draw : Stmt := topS 8
abbrev s__law_pick : Stmt := topS 9
abbrev s__law_kind : Stmt := topS 10
abbrev s__law_marks : Stmt := topS 11
abbrev s__law_piece : Stmt := topS 12
abbrev s_law : Stmt := topS 13
abbrev KW : List (Str × Nat × List Str) := [("marks_of", 0, ["text"])]
/-- run_end -/
abbrev N_run_end : List Str := ["text", "at", "signs"]
def T_run_end : Tx where
  N := N_run_end
  ow := []
  sh := []
  fz := []
  fns := []
  kws := KW
  cs := []
  bl := ["len"]
theorem sc_run_end : FnScope N_run_end ["text", "at", "signs"] (defScope s_run_end) := ⟨rfl, rfl, rfl, by decide +kernel, rfl, by decide +kernel, by decide +kernel⟩
theorem tr_run_end : trSs T_run_end 200 (defScope s_run_end) (defBody s_run_end) = some den_run_end := by kernel_rfl

/-- mark_at -/
-- calls run_end
abbrev N_mark_at : List Str := ["text", "at"]
def T_mark_at : Tx where
  N := N_mark_at
  ow := []
  sh := []
  fz := []
  fns := [("run_end", ["text", "at", "signs"], S_run_end)]
  kws := KW
  cs := [("LETTERS", k_LETTERS), ("DIGITS", k_DIGITS)]
  bl := []
theorem sc_mark_at : FnScope N_mark_at ["text", "at"] (defScope s_mark_at) := ⟨rfl, rfl, rfl, by decide +kernel, rfl, by decide +kernel, by decide +kernel⟩
theorem tr_mark_at : trSs T_mark_at 200 (defScope s_mark_at) (defBody s_mark_at) = some den_mark_at := by kernel_rfl

/-- marks_of -/
-- calls mark_at
abbrev N_marks_of : List Str := ["text", "found", "line", "start", "at", "mark"]
def T_marks_of : Tx where
  N := N_marks_of
  ow := [1]
  sh := []
  fz := []
  fns := [("mark_at", ["text", "at"], S_mark_at)]
  kws := KW
  cs := []
  bl := ["len", "tuple"]
theorem sc_marks_of : FnScope N_marks_of ["text"] (defScope s_marks_of) := ⟨rfl, rfl, rfl, by decide +kernel, rfl, by decide +kernel, by decide +kernel⟩
theorem tr_marks_of : trSs T_marks_of 200 (defScope s_marks_of) (defBody s_marks_of) = some den_marks_of := by kernel_rfl

/-- _law_heap -/
abbrev N__law_heap : List Str := ["_law_script", "_law_cells", "_law_stir", "_law_cell"]
def T__law_heap : Tx where
  N := N__law_heap
  ow := []
  sh := [27]
  fz := []
  fns := []
  kws := KW
  cs := []
  bl := ["abs", "int"]
theorem sc__law_heap : FnScope N__law_heap ["_law_script"] (defScope s__law_heap) := ⟨rfl, rfl, rfl, by decide +kernel, rfl, by decide +kernel, by decide +kernel⟩
theorem tr__law_heap : trSs T__law_heap 200 (defScope s__law_heap) (defBody s__law_heap) = some den_heap := by kernel_rfl

/-- _law_draw -/
abbrev N__law_draw : List Str := ["_law_heap_here", "_law_many", "_law_rest"]
def T__law_draw : Tx where
  N := N__law_draw
  ow := []
  sh := []
  fz := []
  fns := []
  kws := KW
  cs := []
  bl := ["int"]
theorem sc__law_draw : FnScope N__law_draw ["_law_heap_here", "_law_many"] (defScope s__law_draw) := ⟨rfl, rfl, rfl, by decide +kernel, rfl, by decide +kernel, by decide +kernel⟩
theorem tr__law_draw : trSs T__law_draw 200 (defScope s__law_draw) (defBody s__law_draw) = some den_draw := by kernel_rfl

/-- _law_pick -/
-- calls _law_draw
abbrev N__law_pick : List Str := ["_law_heap_here", "_law_some"]
def T__law_pick : Tx where
  N := N__law_pick
  ow := []
  sh := []
  fz := []
  fns := [("_law_draw", ["_law_heap_here", "_law_many"], S__law_draw)]
  kws := KW
  cs := []
  bl := ["len"]
theorem sc__law_pick : FnScope N__law_pick ["_law_heap_here", "_law_some"] (defScope s__law_pick) := ⟨rfl, rfl, rfl, by decide +kernel, rfl, by decide +kernel, by decide +kernel⟩
theorem tr__law_pick : trSs T__law_pick 200 (defScope s__law_pick) (defBody s__law_pick) = some den__law_pick := by kernel_rfl

/-- _law_kind -/
abbrev N__law_kind : List Str := ["_law_sign"]
def T__law_kind : Tx where
  N := N__law_kind
  ow := []
  sh := []
  fz := []
  fns := []
  kws := KW
  cs := []
  bl := []
theorem sc__law_kind : FnScope N__law_kind ["_law_sign"] (defScope s__law_kind) := ⟨rfl, rfl, rfl, by decide +kernel, rfl, by decide +kernel, by decide +kernel⟩
theorem tr__law_kind : trSs T__law_kind 200 (defScope s__law_kind) (defBody s__law_kind) = some den__law_kind := by kernel_rfl

/-- _law_marks -/
-- calls _law_kind
abbrev N__law_marks : List Str := ["_law_text", "_law_found", "_law_line", "_law_at", "_law_sign", "_law_kind_here", "_law_mark"]
def T__law_marks : Tx where
  N := N__law_marks
  ow := [1]
  sh := []
  fz := []
  fns := [("_law_kind", ["_law_sign"], S__law_kind)]
  kws := KW
  cs := []
  bl := ["len"]
theorem sc__law_marks : FnScope N__law_marks ["_law_text"] (defScope s__law_marks) := ⟨rfl, rfl, rfl, by decide +kernel, rfl, by decide +kernel, by decide +kernel⟩
theorem tr__law_marks : trSs T__law_marks 200 (defScope s__law_marks) (defBody s__law_marks) = some den__law_marks := by kernel_rfl

/-- _law_piece -/
-- calls _law_draw
-- calls _law_pick
abbrev N__law_piece : List Str := ["_law_heap_here", "_law_kind_here", "_law_some", "_law_turn"]
def T__law_piece : Tx where
  N := N__law_piece
  ow := []
  sh := []
  fz := []
  fns := [("_law_draw", ["_law_heap_here", "_law_many"], S__law_draw), ("_law_pick", ["_law_heap_here", "_law_some"], S__law_pick)]
  kws := KW
  cs := []
  bl := ["range"]
theorem sc__law_piece : FnScope N__law_piece ["_law_heap_here"] (defScope s__law_piece) := ⟨rfl, rfl, rfl, by decide +kernel, rfl, by decide +kernel, by decide +kernel⟩
theorem tr__law_piece : trSs T__law_piece 200 (defScope s__law_piece) (defBody s__law_piece) = some den__law_piece := by kernel_rfl

/-- law -/
-- calls _law_heap
-- calls _law_pick
-- calls _law_piece
-- calls _law_draw
-- calls _law_marks
-- calls marks_of
abbrev N_law : List Str := ["_law_script", "_law_heap_here", "_law_turn", "_law_text", "_law_due", "_law_told", "_law_joined", "_law_again", "_law_line", "_law_at", "_law_mark"]
def T_law : Tx where
  N := N_law
  ow := []
  sh := []
  fz := []
  fns := [("_law_heap", ["_law_script"], S__law_heap), ("_law_pick", ["_law_heap_here", "_law_some"], S__law_pick), ("_law_piece", ["_law_heap_here"], S__law_piece), ("_law_draw", ["_law_heap_here", "_law_many"], S__law_draw), ("_law_marks", ["_law_text"], S__law_marks), ("marks_of", ["text"], S_marks_of)]
  kws := KW
  cs := []
  bl := ["range", "int", "len", "tuple", "repr"]
theorem sc_law : FnScope N_law ["_law_script"] (defScope s_law) := ⟨rfl, rfl, rfl, by decide +kernel, rfl, by decide +kernel, by decide +kernel⟩
theorem tr_law : trSs T_law 200 (defScope s_law) (defBody s_law) = some den_law := by kernel_rfl
theorem sem__law_heap (ds : List D) (r : Rs) (x : Nat → List D → Rs → Prop) (q : D → Rs → Prop) (hl : ds.length = 1) (h : S__law_heap ds r x q) : den_heap (startE 4 ds) r (ktOf q x) := sem_heap ds r x q hl h
theorem sem__law_draw (ds : List D) (r : Rs) (x : Nat → List D → Rs → Prop) (q : D → Rs → Prop) (hl : ds.length = 2) (h : S__law_draw ds r x q) : den_draw (startE 3 ds) r (ktOf q x) := sem_draw ds r x q hl h
theorem all_mk {l : PySem.W.OpenLaw} {w : World} {K : PySem.W.Frag} {h : Heap} {mg : Str → Option Value} {fa : Addr} (X : K.In h) (G : h.Ns mainGlobals mg) (hfa : mg "law" = some (.ref fa))
    {f_0 f_1 f_2 f_3 f_4 f_5 f_6 f_7 f_8 f_9 : Addr} {od0 an0 od1 an1 od2 an2 od3 an3 od4 an4 od5 an5 od6 an6 od7 an7 od8 an8 od9 an9 : Option Addr} {sl0 sl1 sl2 sl3 sl4 sl5 sl6 sl7 sl8 sl9 : Array (Option Value)}
    {oc0 kV0 dc0 pm0 cd0 ct0 oc1 kV1 dc1 pm1 cd1 ct1 oc2 kV2 dc2 pm2 cd2 ct2 oc3 kV3 dc3 pm3 cd3 ct3 oc4 kV4 dc4 pm4 cd4 ct4 oc5 kV5 dc5 pm5 cd5 ct5 oc6 kV6 dc6 pm6 cd6 ct6 oc7 kV7 dc7 pm7 cd7 ct7 oc8 kV8 dc8 pm8 cd8 ct8 oc9 kV9 dc9 pm9 cd9 ct9 : Value}{z0 z1 : Str} {y0 y1 : Tok}
    (a0 : PySem.W.nsIn K mainGlobals "run_end" = some (some (.ref f_0))) (l0 : K.lookup f_0 = some ⟨oc0, od0, .func (PySem.W.fnOf "run_end" "run_end" (defArgs s_run_end) (defBody s_run_end) (defScope s_run_end) .none kV0 dc0 pm0 an0 cd0 ct0), sl0⟩) (c0 : PySem.W.codeIn K cd0 "run_end" = true) (k0 : PySem.W.keepIn K (.ref f_0) = true)
    (a1 : PySem.W.nsIn K mainGlobals "mark_at" = some (some (.ref f_1))) (l1 : K.lookup f_1 = some ⟨oc1, od1, .func (PySem.W.fnOf "mark_at" "mark_at" (defArgs s_mark_at) (defBody s_mark_at) (defScope s_mark_at) .none kV1 dc1 pm1 an1 cd1 ct1), sl1⟩) (c1 : PySem.W.codeIn K cd1 "mark_at" = true) (k1 : PySem.W.keepIn K (.ref f_1) = true)
    (a2 : PySem.W.nsIn K mainGlobals "marks_of" = some (some (.ref f_2))) (l2 : K.lookup f_2 = some ⟨oc2, od2, .func (PySem.W.fnOf "marks_of" "marks_of" (defArgs s_marks_of) (defBody s_marks_of) (defScope s_marks_of) .none kV2 dc2 pm2 an2 cd2 ct2), sl2⟩) (c2 : PySem.W.codeIn K cd2 "marks_of" = true) (k2 : PySem.W.keepIn K (.ref f_2) = true)
    (a3 : PySem.W.nsIn K mainGlobals "_law_heap" = some (some (.ref f_3))) (l3 : K.lookup f_3 = some ⟨oc3, od3, .func (PySem.W.fnOf "_law_heap" "_law_heap" (defArgs s__law_heap) (defBody s__law_heap) (defScope s__law_heap) .none kV3 dc3 pm3 an3 cd3 ct3), sl3⟩) (c3 : PySem.W.codeIn K cd3 "_law_heap" = true) (k3 : PySem.W.keepIn K (.ref f_3) = true)
    (a4 : PySem.W.nsIn K mainGlobals "_law_draw" = some (some (.ref f_4))) (l4 : K.lookup f_4 = some ⟨oc4, od4, .func (PySem.W.fnOf "_law_draw" "_law_draw" (defArgs s__law_draw) (defBody s__law_draw) (defScope s__law_draw) .none kV4 dc4 pm4 an4 cd4 ct4), sl4⟩) (c4 : PySem.W.codeIn K cd4 "_law_draw" = true) (k4 : PySem.W.keepIn K (.ref f_4) = true)
    (a5 : PySem.W.nsIn K mainGlobals "_law_pick" = some (some (.ref f_5))) (l5 : K.lookup f_5 = some ⟨oc5, od5, .func (PySem.W.fnOf "_law_pick" "_law_pick" (defArgs s__law_pick) (defBody s__law_pick) (defScope s__law_pick) .none kV5 dc5 pm5 an5 cd5 ct5), sl5⟩) (c5 : PySem.W.codeIn K cd5 "_law_pick" = true) (k5 : PySem.W.keepIn K (.ref f_5) = true)
    (a6 : PySem.W.nsIn K mainGlobals "_law_kind" = some (some (.ref f_6))) (l6 : K.lookup f_6 = some ⟨oc6, od6, .func (PySem.W.fnOf "_law_kind" "_law_kind" (defArgs s__law_kind) (defBody s__law_kind) (defScope s__law_kind) .none kV6 dc6 pm6 an6 cd6 ct6), sl6⟩) (c6 : PySem.W.codeIn K cd6 "_law_kind" = true) (k6 : PySem.W.keepIn K (.ref f_6) = true)
    (a7 : PySem.W.nsIn K mainGlobals "_law_marks" = some (some (.ref f_7))) (l7 : K.lookup f_7 = some ⟨oc7, od7, .func (PySem.W.fnOf "_law_marks" "_law_marks" (defArgs s__law_marks) (defBody s__law_marks) (defScope s__law_marks) .none kV7 dc7 pm7 an7 cd7 ct7), sl7⟩) (c7 : PySem.W.codeIn K cd7 "_law_marks" = true) (k7 : PySem.W.keepIn K (.ref f_7) = true)
    (a8 : PySem.W.nsIn K mainGlobals "_law_piece" = some (some (.ref f_8))) (l8 : K.lookup f_8 = some ⟨oc8, od8, .func (PySem.W.fnOf "_law_piece" "_law_piece" (defArgs s__law_piece) (defBody s__law_piece) (defScope s__law_piece) .none kV8 dc8 pm8 an8 cd8 ct8), sl8⟩) (c8 : PySem.W.codeIn K cd8 "_law_piece" = true) (k8 : PySem.W.keepIn K (.ref f_8) = true)
    (a9 : PySem.W.nsIn K mainGlobals "law" = some (some (.ref f_9))) (l9 : K.lookup f_9 = some ⟨oc9, od9, .func (PySem.W.fnOf "law" "law" (defArgs s_law) (defBody s_law) (defScope s_law) .none kV9 dc9 pm9 an9 cd9 ct9), sl9⟩) (c9 : PySem.W.codeIn K cd9 "law" = true) (k9 : PySem.W.keepIn K (.ref f_9) = true)
    (u0 : PySem.W.nsIn K mainGlobals "DIGITS" = some (some (.str z0 y0))) (v0 : z0 = ("0123456789" : Str))
    (u1 : PySem.W.nsIn K mainGlobals "LETTERS" = some (some (.str z1 y1))) (v1 : z1 = ("abcdefghijklmnopqrstuvwxyz" : Str))
    (b0 : PySem.W.nsIn K mainGlobals "abs" = some none)
    (b1 : PySem.W.nsIn K mainGlobals "int" = some none)
    (b2 : PySem.W.nsIn K mainGlobals "len" = some none)
    (b3 : PySem.W.nsIn K mainGlobals "range" = some none)
    (b4 : PySem.W.nsIn K mainGlobals "repr" = some none)
    (b5 : PySem.W.nsIn K mainGlobals "tuple" = some none)
    : ∃ fd : FuncData, (∀ (s : Shared) (v : Value), BindsTo s fd ⟨[v], []⟩ [("_law_script", v)]) ∧ ∀ base : Heap, K.In base → base.Ns mainGlobals mg → FnG l.prog w K mg base 4 fa fd ["_law_script"] (spS ⟨K, fun _ => (0, [])⟩ 1 S_law) := by
  have e := hfa.symm.trans (PySem.W.mg_of X G a9)
  cases e
  subst v0
  subst v1
  refine ⟨PySem.W.fnOf "law" "law" (defArgs s_law) (defBody s_law) (defScope s_law) .none kV9 dc9 pm9 an9 cd9 ct9, fun s v => .of_eq rfl, fun base _ _ => ?_⟩
  have F0 := fun_mk (st := s_run_end) l0 c0 k0
  have F1 := fun_mk (st := s_mark_at) l1 c1 k1
  have F2 := fun_mk (st := s_marks_of) l2 c2 k2
  have F3 := fun_mk (st := s__law_heap) l3 c3 k3
  have F4 := fun_mk (st := s__law_draw) l4 c4 k4
  have F5 := fun_mk (st := s__law_pick) l5 c5 k5
  have F6 := fun_mk (st := s__law_kind) l6 c6 k6
  have F7 := fun_mk (st := s__law_marks) l7 c7 k7
  have F8 := fun_mk (st := s__law_piece) l8 c8 k8
  have F9 := fun_mk (st := s_law) l9 c9 k9
  have B0 := F0.binds (ps := ["text", "at", "signs"]) fun _ _ _ _ _ _ us hl => match us, hl with | [_, _, _], _ => rfl
  have G0 := fn_sound (P := l.prog) (w := w) (mg := mg) (base := base) (T := T_run_end) (n := 3) (S := S_run_end) (ps := ["text", "at", "signs"]) (G := ⟨K, fun _ => (0, [])⟩) rfl F0 sc_run_end (lk_mk (G := ⟨K, fun _ => (0, [])⟩) (k := 0) (T := T_run_end) trivial trivial ⟨PySem.W.mg_none_of X G b2, trivial⟩) tr_run_end rfl sem_run_end
  have C0 := cl_mk (kws := KW) (PySem.W.mg_of X G a0) F0 B0 G0 ⟨fun h => absurd h (by decide), trivial⟩
  have B3 := F3.binds (ps := ["_law_script"]) fun _ _ _ _ _ _ us hl => match us, hl with | [_], _ => rfl
  have G3 := fn_sound (P := l.prog) (w := w) (mg := mg) (base := base) (T := T__law_heap) (n := 1) (S := S__law_heap) (ps := ["_law_script"]) (G := ⟨K, fun _ => (0, [])⟩) rfl F3 sc__law_heap (lk_mk (G := ⟨K, fun _ => (0, [])⟩) (k := 0) (T := T__law_heap) trivial trivial ⟨PySem.W.mg_none_of X G b0, PySem.W.mg_none_of X G b1, trivial⟩) tr__law_heap rfl sem__law_heap
  have C3 := cl_mk (kws := KW) (PySem.W.mg_of X G a3) F3 B3 G3 ⟨fun h => absurd h (by decide), trivial⟩
  have B4 := F4.binds (ps := ["_law_heap_here", "_law_many"]) fun _ _ _ _ _ _ us hl => match us, hl with | [_, _], _ => rfl
  have G4 := fn_sound (P := l.prog) (w := w) (mg := mg) (base := base) (T := T__law_draw) (n := 2) (S := S__law_draw) (ps := ["_law_heap_here", "_law_many"]) (G := ⟨K, fun _ => (0, [])⟩) rfl F4 sc__law_draw (lk_mk (G := ⟨K, fun _ => (0, [])⟩) (k := 0) (T := T__law_draw) trivial trivial ⟨PySem.W.mg_none_of X G b1, trivial⟩) tr__law_draw rfl sem__law_draw
  have C4 := cl_mk (kws := KW) (PySem.W.mg_of X G a4) F4 B4 G4 ⟨fun h => absurd h (by decide), trivial⟩
  have B6 := F6.binds (ps := ["_law_sign"]) fun _ _ _ _ _ _ us hl => match us, hl with | [_], _ => rfl
  have G6 := fn_sound (P := l.prog) (w := w) (mg := mg) (base := base) (T := T__law_kind) (n := 1) (S := S__law_kind) (ps := ["_law_sign"]) (G := ⟨K, fun _ => (0, [])⟩) rfl F6 sc__law_kind (lk_mk (G := ⟨K, fun _ => (0, [])⟩) (k := 0) (T := T__law_kind) trivial trivial trivial) tr__law_kind rfl sem__law_kind
  have C6 := cl_mk (kws := KW) (PySem.W.mg_of X G a6) F6 B6 G6 ⟨fun h => absurd h (by decide), trivial⟩
  have B1 := F1.binds (ps := ["text", "at"]) fun _ _ _ _ _ _ us hl => match us, hl with | [_, _], _ => rfl
  have G1 := fn_sound (P := l.prog) (w := w) (mg := mg) (base := base) (T := T_mark_at) (n := 2) (S := S_mark_at) (ps := ["text", "at"]) (G := ⟨K, fun _ => (0, [])⟩) rfl F1 sc_mark_at (lk_mk (G := ⟨K, fun _ => (0, [])⟩) (k := 1) (T := T_mark_at) ⟨C0.up (by decide), trivial⟩ ⟨⟨_, V.str "abcdefghijklmnopqrstuvwxyz", PySem.W.mg_of X G u1, ⟨_, rfl⟩, fun _ => .str _⟩, ⟨_, V.str "0123456789", PySem.W.mg_of X G u0, ⟨_, rfl⟩, fun _ => .str _⟩, trivial⟩ trivial) tr_mark_at rfl sem_mark_at
  have C1 := cl_mk (kws := KW) (PySem.W.mg_of X G a1) F1 B1 G1 ⟨fun h => absurd h (by decide), trivial⟩
  have B5 := F5.binds (ps := ["_law_heap_here", "_law_some"]) fun _ _ _ _ _ _ us hl => match us, hl with | [_, _], _ => rfl
  have G5 := fn_sound (P := l.prog) (w := w) (mg := mg) (base := base) (T := T__law_pick) (n := 2) (S := S__law_pick) (ps := ["_law_heap_here", "_law_some"]) (G := ⟨K, fun _ => (0, [])⟩) rfl F5 sc__law_pick (lk_mk (G := ⟨K, fun _ => (0, [])⟩) (k := 1) (T := T__law_pick) ⟨C4.up (by decide), trivial⟩ trivial ⟨PySem.W.mg_none_of X G b2, trivial⟩) tr__law_pick rfl sem__law_pick
  have C5 := cl_mk (kws := KW) (PySem.W.mg_of X G a5) F5 B5 G5 ⟨fun h => absurd h (by decide), trivial⟩
  have B7 := F7.binds (ps := ["_law_text"]) fun _ _ _ _ _ _ us hl => match us, hl with | [_], _ => rfl
  have G7 := fn_sound (P := l.prog) (w := w) (mg := mg) (base := base) (T := T__law_marks) (n := 1) (S := S__law_marks) (ps := ["_law_text"]) (G := ⟨K, fun _ => (0, [])⟩) rfl F7 sc__law_marks (lk_mk (G := ⟨K, fun _ => (0, [])⟩) (k := 1) (T := T__law_marks) ⟨C6.up (by decide), trivial⟩ trivial ⟨PySem.W.mg_none_of X G b2, trivial⟩) tr__law_marks rfl sem__law_marks
  have C7 := cl_mk (kws := KW) (PySem.W.mg_of X G a7) F7 B7 G7 ⟨fun h => absurd h (by decide), trivial⟩
  have B2 := F2.binds (ps := ["text"]) fun _ _ _ _ _ _ us hl => match us, hl with | [_], _ => rfl
  have G2 := fn_sound (P := l.prog) (w := w) (mg := mg) (base := base) (T := T_marks_of) (n := 1) (S := S_marks_of) (ps := ["text"]) (G := ⟨K, fun _ => (0, [])⟩) rfl F2 sc_marks_of (lk_mk (G := ⟨K, fun _ => (0, [])⟩) (k := 2) (T := T_marks_of) ⟨C1.up (by decide), trivial⟩ trivial ⟨PySem.W.mg_none_of X G b2, PySem.W.mg_none_of X G b5, trivial⟩) tr_marks_of rfl sem_marks_of
  have C2 := cl_mk (kws := KW) (PySem.W.mg_of X G a2) F2 B2 G2 ⟨fun _ => kwok_mk (ps := ["text"]) (j := 0) (ks := ["text"]) fun us ws hu hw => match us, ws, hu, hw with | [], [_], _, _ => ⟨rfl, rfl⟩, trivial⟩
  have B8 := F8.binds (ps := ["_law_heap_here"]) fun _ _ _ _ _ _ us hl => match us, hl with | [_], _ => rfl
  have G8 := fn_sound (P := l.prog) (w := w) (mg := mg) (base := base) (T := T__law_piece) (n := 1) (S := S__law_piece) (ps := ["_law_heap_here"]) (G := ⟨K, fun _ => (0, [])⟩) rfl F8 sc__law_piece (lk_mk (G := ⟨K, fun _ => (0, [])⟩) (k := 2) (T := T__law_piece) ⟨C4.up (by decide), C5.up (by decide), trivial⟩ trivial ⟨PySem.W.mg_none_of X G b3, trivial⟩) tr__law_piece rfl sem__law_piece
  have C8 := cl_mk (kws := KW) (PySem.W.mg_of X G a8) F8 B8 G8 ⟨fun h => absurd h (by decide), trivial⟩
  exact fn_sound (T := T_law) (n := 1) (S := S_law) (ps := ["_law_script"]) (G := ⟨K, fun _ => (0, [])⟩) rfl F9 sc_law (lk_mk (G := ⟨K, fun _ => (0, [])⟩) (k := 3) (T := T_law) ⟨C3.up (by decide), C5.up (by decide), C8.up (by decide), C4.up (by decide), C7.up (by decide), C2.up (by decide), trivial⟩ trivial ⟨PySem.W.mg_none_of X G b3, PySem.W.mg_none_of X G b1, PySem.W.mg_none_of X G b2, PySem.W.mg_none_of X G b5, PySem.W.mg_none_of X G b4, trivial⟩) tr_law rfl sem_law
end K05

open PySem PySem.W PyProof.Rows in
set_option maxRecDepth 100000 in
set_option maxHeartbeats 0 in
theorem PySem.Challenge.cw_neverregret_k05_marks_cut_and_joined_holds : PySem.Challenge.rw_neverregret_k05_marks_cut_and_joined.Holds := by
  w_on; o_law; k_head; (case hw => w_witness2)
  k_fill
  refine Nv.walk_G (l := PySem.Challenge.rw_neverregret_k05_marks_cut_and_joined) (n := 63) (k := 4) (x := "_law_script") (sp := fun w => Nv.spS ⟨_, fun _ => (0, [])⟩ 1 Nv.S_law) rfl (by decide) rfl ⟨rfl, by decide, by decide⟩ (fun w h Y => PySem.W.kIn_of Y) ?F fun w H a ns hl _ _ hS => Nv.law_start rfl hl hS
  case F =>
    intro w mg fa h KX G hmg
    refine' K05.all_mk KX G hmg ?a0 ?l0 ?c0 ?k0 ?a1 ?l1 ?c1 ?k1 ?a2 ?l2 ?c2 ?k2 ?a3 ?l3 ?c3 ?k3 ?a4 ?l4 ?c4 ?k4 ?a5 ?l5 ?c5 ?k5 ?a6 ?l6 ?c6 ?k6 ?a7 ?l7 ?c7 ?k7 ?a8 ?l8 ?c8 ?k8 ?a9 ?l9 ?c9 ?k9 ?u0 ?v0 ?u1 ?v1 ?b0 ?b1 ?b2 ?b3 ?b4 ?b5
    (case a0 => k_is)
    (case l0 => k_is)
    (case c0 => k_is)
    (case k0 => k_is)
    (case a1 => k_is)
    (case l1 => k_is)
    (case c1 => k_is)
    (case k1 => k_is)
    (case a2 => k_is)
    (case l2 => k_is)
    (case c2 => k_is)
    (case k2 => k_is)
    (case a3 => k_is)
    (case l3 => k_is)
    (case c3 => k_is)
    (case k3 => k_is)
    (case a4 => k_is)
    (case l4 => k_is)
    (case c4 => k_is)
    (case k4 => k_is)
    (case a5 => k_is)
    (case l5 => k_is)
    (case c5 => k_is)
    (case k5 => k_is)
    (case a6 => k_is)
    (case l6 => k_is)
    (case c6 => k_is)
    (case k6 => k_is)
    (case a7 => k_is)
    (case l7 => k_is)
    (case c7 => k_is)
    (case k7 => k_is)
    (case a8 => k_is)
    (case l8 => k_is)
    (case c8 => k_is)
    (case k8 => k_is)
    (case a9 => k_is)
    (case l9 => k_is)
    (case c9 => k_is)
    (case k9 => k_is)
    (case u0 => k_is)
    (case v0 => decide +kernel)
    (case u1 => k_is)
    (case v1 => decide +kernel)
    (case b0 => k_is)
    (case b1 => k_is)
    (case b2 => k_is)
    (case b3 => k_is)
    (case b4 => k_is)
    (case b5 => k_is)

