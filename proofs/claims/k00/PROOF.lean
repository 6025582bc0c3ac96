import PyProof.Rows.All
import Wide.All
import OpenK.AllK
import Wide.FinOn
import HandS.Base
import HandS.Call
import HandS.List
import HandS.Comp
import HandS.Ends
import HandS.Iter
import HandS.Text
import HandS.Words
import HandS.Defaults
import HandS.Wide
import HandS.Style
import HandS.IsInst
import HandS.RaiseMore
import HandS.More
import HandS.WordsExc
import HandS.Head0
import HandS.Head1
import HandS.Head2
import HandS.HeadEnd
import HandS.HeadHook1
import HandS.HeadHook2
import PySem.Challenge.RW_unsaidsizes_k00_polynomials
set_option Elab.async false
set_option linter.all false
set_option maxRecDepth 100000
set_option maxHeartbeats 8000000
namespace D3
open PySem PySem.Spec L2
abbrev St := L2.St

/-! ### data in an abstract heap -/
def Ex (H H' : Hp) : Prop := ∀ a o, H a = some o → H' a = some o
theorem Ex.refl (H : Hp) : Ex H H := fun _ _ h => h
theorem Ex.trans {H H1 H2 : Hp} (a : Ex H H1) (b : Ex H1 H2) : Ex H H2 := fun x o h => b x o (a x o h)
theorem Ex.new {H : Hp} {p : Addr} {o : HO} (h : H p = none) : Ex H (upd H p o) := fun a u e => by
  rw [upd_ne (ne_of_none e h)]
  exact e
theorem Ex.put {F H : Hp} {p : Addr} {o : HO} (e : Ex F H) (h : F p = none) : Ex F (upd H p o) := fun a u ha => by
  rw [upd_ne (ne_of_none ha h)]
  exact e a u ha
theorem Ex.back {H H' : Hp} {p : Addr} (e : Ex H H') (h : H' p = none) : H p = none := by
  cases h1 : H p with
  | none => rfl
  | some o => rw [e p o h1] at h; cases h
theorem Ex.both {F H : Hp} {p : Addr} {o : HO} (e : Ex F H) : Ex (upd F p o) (upd H p o) := fun a u ha => by
  by_cases h : a = p
  · subst h; rw [upd_same] at ha ⊢; exact ha
  · rw [upd_ne h] at ha ⊢; exact e a u ha
theorem Ex.at_ {F H : Hp} {p : Addr} {o : HO} (e : Ex F H) (h : H p = some o) : Ex (upd F p o) H := fun a u ha => by
  by_cases hp : a = p
  · subst hp; rw [upd_same] at ha; cases ha; exact h
  · rw [upd_ne hp] at ha; exact e a u ha
theorem ex_t {K : PySem.W.Frag} {H H' : Hp} {a : Addr} {xs : List V} (e : Ex H H') (h : SqT K H a xs) : SqT K H' a xs := by
  rcases h with (h | ⟨o, h⟩) | h
  · exact .inl (.inl (e a _ h))
  · exact .inl (.inr ⟨o, e a _ h⟩)
  · exact .inr h
theorem ex_l {K : PySem.W.Frag} {H H' : Hp} {a : Addr} {xs : List V} (e : Ex H H') (h : SqL K H a xs) : SqL K H' a xs := by
  rcases h with (h | ⟨o, h⟩) | h
  · exact .inl (.inl (e a _ h))
  · exact .inl (.inr ⟨o, e a _ h⟩)
  · exact .inr h

mutual
inductive Dq (K : PySem.W.Frag) (H : Hp) : V → PyData → Prop
  | non : Dq K H .non .none
  | bl (b : Bool) : Dq K H (.bl b) (.bool b)
  | int (i : Int) : Dq K H (.int i) (.int i)
  | str (x : Str) : Dq K H (.str x) (.str x)
  | lst {a : Addr} {xs : List V} {ds : List PyData} : H a = some (.lst xs) → DqAll K H xs ds → Dq K H (.ref a) (.list ds)
  | tup {a : Addr} {xs : List V} {ds : List PyData} : SqT K H a xs → DqAll K H xs ds → Dq K H (.ref a) (.tuple ds)
inductive DqAll (K : PySem.W.Frag) (H : Hp) : List V → List PyData → Prop
  | nil : DqAll K H [] []
  | cons {v : V} {vs : List V} {d : PyData} {ds : List PyData} : Dq K H v d → DqAll K H vs ds → DqAll K H (v :: vs) (d :: ds)
end
section
variable {K : PySem.W.Frag} {H H' F F' : Hp}
mutual
theorem Dq.mono (e : Ex H H') : ∀ (d : PyData) (v : V), Dq K H v d → Dq K H' v d
  | .none, _, h => by cases h; exact .non
  | .bool b, _, h => by cases h; exact .bl b
  | .int i, _, h => by cases h; exact .int i
  | .str x, _, h => by cases h; exact .str x
  | .list ds, _, h => by
    cases h with
    | lst hs ha => exact .lst (e _ _ hs) (DqAll.mono e ds _ ha)
  | .tuple ds, _, h => by
    cases h with
    | tup hs ha => exact .tup (ex_t e hs) (DqAll.mono e ds _ ha)
  | .dict _, _, h => by cases h
theorem DqAll.mono (e : Ex H H') : ∀ (ds : List PyData) (vs : List V), DqAll K H vs ds → DqAll K H' vs ds
  | [], _, h => by cases h; exact .nil
  | d :: ds, _, h => by
    cases h with
    | cons h1 h2 => exact .cons (Dq.mono e d _ h1) (DqAll.mono e ds _ h2)
end
mutual
theorem Dq.dp : ∀ (d : PyData) (v : V), Dq K H v d → Dp K H v d
  | .none, _, h => by cases h; exact .non
  | .bool b, _, h => by cases h; exact .bl b
  | .int i, _, h => by cases h; exact .int i
  | .str x, _, h => by cases h; exact .str x
  | .list ds, _, h => by
    cases h with
    | lst hs ha => exact .lst (.inl (.inl hs)) (DqAll.dp ds _ ha)
  | .tuple ds, _, h => by
    cases h with
    | tup hs ha => exact .tup hs (DqAll.dp ds _ ha)
  | .dict _, _, h => by cases h
theorem DqAll.dp : ∀ (ds : List PyData) (vs : List V), DqAll K H vs ds → DpAll K H vs ds
  | [], _, h => by cases h; exact .nil
  | d :: ds, _, h => by
    cases h with
    | cons h1 h2 => exact .cons (Dq.dp d _ h1) (DqAll.dp ds _ h2)
end
theorem Dq.up {v : V} {d : PyData} (h : Dq K H v d) (e : Ex H H') : Dq K H' v d := Dq.mono e d v h
theorem DqAll.up {vs : List V} {ds : List PyData} (h : DqAll K H vs ds) (e : Ex H H') : DqAll K H' vs ds := DqAll.mono e ds vs h
theorem DqAll.length : ∀ {vs : List V} {ds : List PyData}, DqAll K H vs ds → vs.length = ds.length
  | _, [], h => by cases h; rfl
  | _, d :: ds, h => by
    cases h with
    | cons h1 h2 => simp [DqAll.length h2]
theorem DqAll.get : ∀ {vs : List V} {ds : List PyData} {i : Nat} {d : PyData}, DqAll K H vs ds → ds[i]? = some d → ∃ v, vs[i]? = some v ∧ Dq K H v d
  | _, [], i, d, h, e => by simp at e
  | _, c :: ds, 0, d, h, e => by
    cases h with
    | cons h1 h2 => simp at e; subst e; exact ⟨_, rfl, h1⟩
  | _, c :: ds, i + 1, d, h, e => by
    cases h with
    | cons h1 h2 =>
      obtain ⟨v, a, b⟩ := DqAll.get (i := i) h2 (by simpa using e)
      exact ⟨v, by simpa using a, b⟩
theorem DqAll.getV {vs : List V} {ds : List PyData} {i : Nat} {v : V} (h : DqAll K H vs ds) (e : vs[i]? = some v) : ∃ d, ds[i]? = some d ∧ Dq K H v d := by
  have hl := h.length
  have hi : i < ds.length := by
    have := (List.getElem?_eq_some_iff.mp e).1
    omega
  obtain ⟨w, hw, hd⟩ := h.get (List.getElem?_eq_getElem hi)
  rw [e] at hw; cases hw
  exact ⟨_, List.getElem?_eq_getElem hi, hd⟩
theorem DqAll.append : ∀ {vs ws : List V} {ds es : List PyData}, DqAll K H vs ds → DqAll K H ws es → DqAll K H (vs ++ ws) (ds ++ es)
  | _, _, [], _, h, g => by cases h; exact g
  | _, _, d :: ds, _, h, g => by
    cases h with
    | cons h1 h2 => exact .cons h1 (DqAll.append h2 g)
theorem DqAll.set {v : V} {d : PyData} (hv : Dq K H v d) : ∀ {vs : List V} {ds : List PyData} (i : Nat), DqAll K H vs ds → DqAll K H (vs.set i v) (ds.set i d)
  | _, [], _, h => by cases h; exact .nil
  | _, c :: ds, 0, h => by
    cases h with
    | cons h1 h2 => exact .cons hv h2
  | _, c :: ds, i + 1, h => by
    cases h with
    | cons h1 h2 => exact .cons h1 (DqAll.set hv i h2)
theorem DqAll.drop : ∀ {vs : List V} {ds : List PyData} (n : Nat), DqAll K H vs ds → DqAll K H (vs.drop n) (ds.drop n)
  | _, _, 0, h => h
  | _, [], n + 1, h => by cases h; exact .nil
  | _, d :: ds, n + 1, h => by
    cases h with
    | cons h1 h2 => exact DqAll.drop n h2
theorem DqAll.take : ∀ {vs : List V} {ds : List PyData} (n : Nat), DqAll K H vs ds → DqAll K H (vs.take n) (ds.take n)
  | _, _, 0, h => .nil
  | _, [], n + 1, h => by cases h; exact .nil
  | _, d :: ds, n + 1, h => by
    cases h with
    | cons h1 h2 => exact .cons h1 (DqAll.take n h2)
theorem DqAll.ints : ∀ {vs : List V} {ns : List Int}, DqAll K H vs (ns.map .int) → vs = ns.map V.int
  | _, [], h => by cases h; rfl
  | _, n :: ns, h => by
    cases h with
    | cons h1 h2 => cases h1; rw [DqAll.ints h2]; rfl
theorem DqAll.bls : ∀ {vs : List V} {ns : List Bool}, DqAll K H vs (ns.map .bool) → vs = ns.map V.bl
  | _, [], h => by cases h; rfl
  | _, n :: ns, h => by
    cases h with
    | cons h1 h2 => cases h1; rw [DqAll.bls h2]; rfl
theorem DqAll.ofInts : ∀ (ns : List Int), DqAll K H (ns.map V.int) (ns.map .int)
  | [] => .nil
  | n :: ns => .cons (.int n) (DqAll.ofInts ns)
theorem DqAll.repl {v : V} {d : PyData} (hv : Dq K H v d) : ∀ n : Nat, DqAll K H (List.replicate n v) (List.replicate n d)
  | 0 => .nil
  | n + 1 => .cons hv (DqAll.repl hv n)
/-- what needs no heap -/
def scalD : PyData → Bool
  | .none | .bool _ | .int _ | .str _ => true
  | _ => false
theorem Dq.scal {v : V} {d : PyData} (h : Dq K H v d) (s : scalD d = true) : Dq K H' v d := by
  cases h with
  | non => exact .non
  | bl b => exact .bl b
  | int i => exact .int i
  | str x => exact .str x
  | lst => cases s
  | tup => cases s
theorem DqAll.scal : ∀ {vs : List V} {ds : List PyData}, DqAll K H vs ds → ds.all scalD = true → DqAll K H' vs ds
  | _, [], h, _ => by cases h; exact .nil
  | _, d :: ds, h, s => by
    cases h with
    | cons h1 h2 =>
      rw [List.all_cons, Bool.and_eq_true] at s
      exact .cons (h1.scal s.1) (DqAll.scal h2 s.2)
end

/-! ### the frozen part grows -/
structure Grow (F H F' H' : Hp) : Prop where
  ff : Ex F F'
  hh : Ex H H'
  fh : Ex F' H'
  old : ∀ a, F a = none → H a ≠ none → F' a = none
theorem Grow.refl {F H : Hp} (e : Ex F H) : Grow F H F H := ⟨Ex.refl _, Ex.refl _, e, fun _ h _ => h⟩
theorem Grow.trans {F H F1 H1 F2 H2 : Hp} (a : Grow F H F1 H1) (b : Grow F1 H1 F2 H2) : Grow F H F2 H2 :=
  ⟨a.ff.trans b.ff, a.hh.trans b.hh, b.fh, fun x h0 h1 => b.old x (a.old x h0 h1) fun z => by
    cases h : H x with
    | none => exact h1 h
    | some o => rw [a.hh x o h] at z; cases z⟩
/-- a new object, frozen -/
theorem Grow.new {F H : Hp} {p : Addr} {o : HO} (e : Ex F H) (h : H p = none) : Grow F H (upd F p o) (upd H p o) :=
  ⟨Ex.new (e.back h), Ex.new h, e.both, fun a h0 h1 => by
    by_cases ha : a = p
    · subst ha; exact absurd h h1
    · rw [upd_ne ha]; exact h0⟩
/-- a new object, not frozen -/
theorem Grow.own {F H : Hp} {p : Addr} {o : HO} (e : Ex F H) (h : H p = none) : Grow F H F (upd H p o) :=
  ⟨Ex.refl _, Ex.new h, e.put (e.back h), fun a h0 _ => h0⟩
/-- junk -/
theorem Grow.junk {F H H' : Hp} (e : Ex F H) (h : Ex H H') : Grow F H F H' := ⟨Ex.refl _, h, e.trans h, fun _ h0 _ => h0⟩
/-- what was owned and new is frozen -/
theorem Grow.frz {F0 H0 F H : Hp} {p : Addr} {o : HO} (g : Grow F0 H0 F H) (h0 : H0 p = none) (hf : F p = none) (h : H p = some o) : Grow F0 H0 (upd F p o) H :=
  ⟨g.ff.trans (Ex.new hf), g.hh, g.fh.at_ h, fun a a0 a1 => by
    by_cases ha : a = p
    · subst ha; exact absurd h0 a1
    · rw [upd_ne ha]; exact g.old a a0 a1⟩
theorem Grow.put {F0 H0 F H : Hp} {p : Addr} {o : HO} (g : Grow F0 H0 F H) (h0 : H0 p = none) (hf : F p = none) : Grow F0 H0 F (upd H p o) :=
  ⟨g.ff, g.hh.put h0, g.fh.put hf, g.old⟩

/-! ### slots -/
inductive Sl where
  | no
  | dat (d : PyData)
  | own (ds : List PyData)
  | scr (ns : List Int)

structure Ok (K : PySem.W.Frag) (F0 H0 : Hp) (env : List Sl) (σ : St) (F H : Hp) : Prop where
  g : Grow F0 H0 F H
  dat : ∀ (i : Nat) (d : PyData), env[i]? = some (.dat d) → ∃ v, σ[i]? = some (some v) ∧ Dq K F v d
  own : ∀ (i : Nat) (ds : List PyData), env[i]? = some (.own ds) → ∃ p vs, σ[i]? = some (some (.ref p)) ∧ F p = none ∧ H0 p = none ∧ H p = some (.lst vs) ∧ DqAll K F vs ds
  sep : ∀ (i j : Nat) (ds es : List PyData) (p : Addr), env[i]? = some (.own ds) → env[j]? = some (.own es) → σ[i]? = some (some (.ref p)) → σ[j]? = some (some (.ref p)) → i = j
  scr : ∀ (i : Nat) (ns : List Int), env[i]? = some (.scr ns) → ∃ a, σ[i]? = some (some (.ref a)) ∧ SqL K F a (ns.map V.int)
  len : σ.length = env.length

section
variable {K : PySem.W.Frag} {F0 H0 F H F' H' : Hp} {env : List Sl} {σ : St}
theorem Ok.grow (o : Ok K F0 H0 env σ F H) (g : Grow F H F' H') : Ok K F0 H0 env σ F' H' where
  g := o.g.trans g
  dat := fun i d e => by
    obtain ⟨v, a, b⟩ := o.dat i d e
    exact ⟨v, a, b.up g.ff⟩
  own := fun i ds e => by
    obtain ⟨p, vs, a, b, c, d, f⟩ := o.own i ds e
    exact ⟨p, vs, a, g.old p b (by rw [d]; simp), c, g.hh _ _ d, f.up g.ff⟩
  sep := o.sep
  scr := fun i ns e => by
    obtain ⟨a, h1, h2⟩ := o.scr i ns e
    exact ⟨a, h1, ex_l g.ff h2⟩
  len := o.len
theorem get_set_cases {α : Type} {l : List α} {i j : Nat} {x y : α} (h : (l.set i x)[j]? = some y) : (i = j ∧ i < l.length ∧ x = y) ∨ (i ≠ j ∧ l[j]? = some y) := by
  rw [List.getElem?_set] at h
  by_cases e : i = j
  · subst e
    rw [if_pos rfl] at h
    by_cases hl : i < l.length
    · rw [if_pos hl] at h
      exact .inl ⟨rfl, hl, by simpa using h⟩
    · rw [if_neg hl] at h; cases h
  · rw [if_neg e] at h
    exact .inr ⟨e, h⟩
theorem Ok.setDat (o : Ok K F0 H0 env σ F H) {i : Nat} {v : V} {d : PyData} (hd : Dq K F v d) : Ok K F0 H0 (env.set i (.dat d)) (σ.set i (some v)) F H where
  g := o.g
  dat := fun j e h => by
    rcases get_set_cases h with ⟨rfl, hl, q⟩ | ⟨ne, q⟩
    · cases q
      exact ⟨v, by rw [List.getElem?_set_self (by rw [o.len]; exact hl)], hd⟩
    · obtain ⟨w, a, b⟩ := o.dat j e q
      exact ⟨w, by rw [List.getElem?_set_ne ne]; exact a, b⟩
  own := fun j e h => by
    rcases get_set_cases h with ⟨rfl, hl, q⟩ | ⟨ne, q⟩
    · cases q
    · obtain ⟨p, vs, a, r⟩ := o.own j e q
      exact ⟨p, vs, by rw [List.getElem?_set_ne ne]; exact a, r⟩
  sep := fun j k ds es p h1 h2 h3 h4 => by
    rcases get_set_cases h1 with ⟨rfl, hl, q⟩ | ⟨ne, q⟩
    · cases q
    · rcases get_set_cases h2 with ⟨rfl, hl, q'⟩ | ⟨ne', q'⟩
      · cases q'
      · rw [List.getElem?_set_ne ne] at h3
        rw [List.getElem?_set_ne ne'] at h4
        exact o.sep j k ds es p q q' h3 h4
  scr := fun j e h => by
    rcases get_set_cases h with ⟨rfl, hl, q⟩ | ⟨ne, q⟩
    · cases q
    · obtain ⟨p, a, r⟩ := o.scr j e q
      exact ⟨p, by rw [List.getElem?_set_ne ne]; exact a, r⟩
  len := by rw [List.length_set, List.length_set, o.len]
theorem Ok.setNo (o : Ok K F0 H0 env σ F H) {i : Nat} {x : Option V} : Ok K F0 H0 (env.set i .no) (σ.set i x) F H where
  g := o.g
  dat := fun j e h => by
    rcases get_set_cases h with ⟨rfl, hl, q⟩ | ⟨ne, q⟩
    · cases q
    · obtain ⟨w, a, b⟩ := o.dat j e q
      exact ⟨w, by rw [List.getElem?_set_ne ne]; exact a, b⟩
  own := fun j e h => by
    rcases get_set_cases h with ⟨rfl, hl, q⟩ | ⟨ne, q⟩
    · cases q
    · obtain ⟨p, vs, a, r⟩ := o.own j e q
      exact ⟨p, vs, by rw [List.getElem?_set_ne ne]; exact a, r⟩
  sep := fun j k ds es p h1 h2 h3 h4 => by
    rcases get_set_cases h1 with ⟨rfl, hl, q⟩ | ⟨ne, q⟩
    · cases q
    · rcases get_set_cases h2 with ⟨rfl, hl, q'⟩ | ⟨ne', q'⟩
      · cases q'
      · rw [List.getElem?_set_ne ne] at h3
        rw [List.getElem?_set_ne ne'] at h4
        exact o.sep j k ds es p q q' h3 h4
  scr := fun j e h => by
    rcases get_set_cases h with ⟨rfl, hl, q⟩ | ⟨ne, q⟩
    · cases q
    · obtain ⟨p, a, r⟩ := o.scr j e q
      exact ⟨p, by rw [List.getElem?_set_ne ne]; exact a, r⟩
  len := by rw [List.length_set, List.length_set, o.len]
/-- a new list goes into a slot -/
theorem Ok.setOwn (o : Ok K F0 H0 env σ F H) {i : Nat} {p : Addr} {vs : List V} {ds : List PyData} (hf : F p = none) (h0 : H0 p = none) (hh : H p = some (.lst vs)) (hd : DqAll K F vs ds)
    (hn : ∀ (j : Nat) (es : List PyData), env[j]? = some (.own es) → σ[j]? ≠ some (some (.ref p))) : Ok K F0 H0 (env.set i (.own ds)) (σ.set i (some (.ref p))) F H where
  g := o.g
  dat := fun j e h => by
    rcases get_set_cases h with ⟨rfl, hl, q⟩ | ⟨ne, q⟩
    · cases q
    · obtain ⟨w, a, b⟩ := o.dat j e q
      exact ⟨w, by rw [List.getElem?_set_ne ne]; exact a, b⟩
  own := fun j e h => by
    rcases get_set_cases h with ⟨rfl, hl, q⟩ | ⟨ne, q⟩
    · cases q
      exact ⟨p, vs, by rw [List.getElem?_set_self (by rw [o.len]; exact hl)], hf, h0, hh, hd⟩
    · obtain ⟨p, vs, a, r⟩ := o.own j e q
      exact ⟨p, vs, by rw [List.getElem?_set_ne ne]; exact a, r⟩
  sep := fun j k es fs q h1 h2 h3 h4 => by
    rcases get_set_cases h1 with ⟨rfl, hl, q1⟩ | ⟨ne, q1⟩
    · rcases get_set_cases h2 with ⟨rfl, hl', q2⟩ | ⟨ne', q2⟩
      · rfl
      · rw [List.getElem?_set_self (by rw [o.len]; exact hl)] at h3
        cases h3
        rw [List.getElem?_set_ne ne'] at h4
        exact absurd h4 (hn _ _ q2)
    · rcases get_set_cases h2 with ⟨rfl, hl', q2⟩ | ⟨ne', q2⟩
      · rw [List.getElem?_set_self (by rw [o.len]; exact hl')] at h4
        cases h4
        rw [List.getElem?_set_ne ne] at h3
        exact absurd h3 (hn _ _ q1)
      · rw [List.getElem?_set_ne ne] at h3
        rw [List.getElem?_set_ne ne'] at h4
        exact o.sep j k es fs q q1 q2 h3 h4
  scr := fun j e h => by
    rcases get_set_cases h with ⟨rfl, hl, q⟩ | ⟨ne, q⟩
    · cases q
    · obtain ⟨p, a, r⟩ := o.scr j e q
      exact ⟨p, by rw [List.getElem?_set_ne ne]; exact a, r⟩
  len := by rw [List.length_set, List.length_set, o.len]
/-- the list of a slot changes -/
theorem Ok.put (o : Ok K F0 H0 env σ F H) {i : Nat} {ds es : List PyData} {p : Addr} {vs : List V} (hi : env[i]? = some (.own ds)) (hs : σ[i]? = some (some (.ref p))) (hd : DqAll K F vs es) :
    Ok K F0 H0 (env.set i (.own es)) σ F (upd H p (.lst vs)) := by
  obtain ⟨p', vs', a, b, c, d, f⟩ := o.own i ds hi
  rw [hs] at a; cases a
  refine ⟨o.g.put c b, fun j e h => ?_, fun j e h => ?_, fun j k es fs q h1 h2 h3 h4 => ?_, fun j e h => ?_, by rw [List.length_set, o.len]⟩
  · rcases get_set_cases h with ⟨rfl, hl, q⟩ | ⟨ne, q⟩
    · cases q
    · exact o.dat j e q
  · rcases get_set_cases h with ⟨rfl, hl, q⟩ | ⟨ne, q⟩
    · cases q
      exact ⟨p, vs, hs, b, c, upd_same, hd⟩
    · obtain ⟨p2, vs2, a2, b2, c2, d2, f2⟩ := o.own j e q
      have hne : p2 ≠ p := fun z => by
        subst z
        exact ne (o.sep i j _ _ _ hi q hs a2)
      exact ⟨p2, vs2, a2, b2, c2, by rw [upd_ne hne]; exact d2, f2⟩
  · rcases get_set_cases h1 with ⟨rfl, hl, q1⟩ | ⟨ne, q1⟩
    · rcases get_set_cases h2 with ⟨rfl, hl, q2⟩ | ⟨ne2, q2⟩
      · rfl
      · exact o.sep _ _ _ _ _ hi q2 h3 h4
    · rcases get_set_cases h2 with ⟨rfl, hl, q2⟩ | ⟨ne2, q2⟩
      · exact o.sep _ _ _ _ _ q1 hi h3 h4
      · exact o.sep _ _ _ _ _ q1 q2 h3 h4
  · rcases get_set_cases h with ⟨rfl, hl, q⟩ | ⟨ne, q⟩
    · cases q
    · exact o.scr j e q
/-- the list of a slot is given away: from now on it is data -/
theorem Ok.freeze (o : Ok K F0 H0 env σ F H) {i : Nat} {ds : List PyData} (hi : env[i]? = some (.own ds)) : ∃ F', Grow F0 H0 F' H ∧ Ex F F' ∧ Ok K F0 H0 (env.set i (.dat (.list ds))) σ F' H := by
  obtain ⟨p, vs, a, b, c, d, f⟩ := o.own i ds hi
  have hx : Ex F (upd F p (.lst vs)) := Ex.new b
  refine ⟨upd F p (.lst vs), o.g.frz c b d, hx, o.g.frz c b d, fun j e h => ?_, fun j e h => ?_, fun j k es fs q h1 h2 h3 h4 => ?_, fun j e h => ?_, by rw [List.length_set, o.len]⟩
  · rcases get_set_cases h with ⟨rfl, hl, q⟩ | ⟨ne, q⟩
    · cases q
      exact ⟨.ref p, a, .lst upd_same (f.up hx)⟩
    · obtain ⟨w, a, b⟩ := o.dat j e q
      exact ⟨w, a, b.up hx⟩
  · rcases get_set_cases h with ⟨rfl, hl, q⟩ | ⟨ne, q⟩
    · cases q
    · obtain ⟨p2, vs2, a2, b2, c2, d2, f2⟩ := o.own j e q
      have hne : p2 ≠ p := fun z => by
        subst z
        exact ne (o.sep i j _ _ _ hi q a a2)
      exact ⟨p2, vs2, a2, by rw [upd_ne hne]; exact b2, c2, d2, f2.up hx⟩
  · rcases get_set_cases h1 with ⟨rfl, hl, q1⟩ | ⟨ne, q1⟩
    · cases q1
    · rcases get_set_cases h2 with ⟨rfl, hl, q2⟩ | ⟨ne2, q2⟩
      · cases q2
      · exact o.sep _ _ _ _ _ q1 q2 h3 h4
  · rcases get_set_cases h with ⟨rfl, hl, q⟩ | ⟨ne, q⟩
    · cases q
    · obtain ⟨w, a, b⟩ := o.scr j e q
      exact ⟨w, a, ex_l hx b⟩
/-- a slot is forgotten -/
theorem Ok.forget (o : Ok K F0 H0 env σ F H) (i : Nat) : Ok K F0 H0 (env.set i .no) σ F H := by
  refine ⟨o.g, fun j e h => ?_, fun j e h => ?_, fun j k es fs q h1 h2 h3 h4 => ?_, fun j e h => ?_, by rw [List.length_set, o.len]⟩
  · rcases get_set_cases h with ⟨rfl, hl, q⟩ | ⟨ne, q⟩
    · cases q
    · exact o.dat j e q
  · rcases get_set_cases h with ⟨rfl, hl, q⟩ | ⟨ne, q⟩
    · cases q
    · exact o.own j e q
  · rcases get_set_cases h1 with ⟨rfl, hl, q1⟩ | ⟨ne, q1⟩
    · cases q1
    · rcases get_set_cases h2 with ⟨rfl, hl, q2⟩ | ⟨ne2, q2⟩
      · cases q2
      · exact o.sep _ _ _ _ _ q1 q2 h3 h4
  · rcases get_set_cases h with ⟨rfl, hl, q⟩ | ⟨ne, q⟩
    · cases q
    · exact o.scr j e q
end
end D3
namespace D3
open PySem PySem.Spec L2

/-! ### readings over data -/
abbrev KF := PySem.W.Frag
def sel (m : Bool) (F H : Hp) : Hp := if m then F else H
def tE (K : KF) (m : Bool) (env : List Sl) (d : PyData) : TE := fun σ H Q => ∃ F0 H0 F, Ok K F0 H0 env σ F H ∧ ∀ v F' H', Grow F H F' H' → Dq K (sel m F' H') v d → Q v H'
/-- a list that is read: its items are frozen, itself perhaps not -/
def tL (K : KF) (env : List Sl) (ds : List PyData) : TE := fun σ H Q => ∃ F0 H0 F, Ok K F0 H0 env σ F H ∧ ∀ p vs F' H', Grow F H F' H' → H' p = some (.lst vs) → DqAll K F' vs ds → Q (.ref p) H'
/-- a new list that nothing else knows -/
def tO (K : KF) (env : List Sl) (ds : List PyData) : TE := fun σ H Q => ∃ F0 H0 F, Ok K F0 H0 env σ F H ∧ ∀ p vs F' H', Grow F H F' H' → H p = none → F' p = none → H' p = some (.lst vs) → DqAll K F' vs ds → Q (.ref p) H'
def tA (K : KF) (m : Bool) (env : List Sl) (ds : List PyData) : TA := fun σ H Q => ∃ F0 H0 F, Ok K F0 H0 env σ F H ∧ ∀ vs F' H', Grow F H F' H' → DqAll K (sel m F' H') vs ds → Q vs H'
def tT (K : KF) (env : List Sl) (b : Bool) : TT := fun σ H Q => ∃ F0 H0 F, Ok K F0 H0 env σ F H ∧ ∀ F' H', Grow F H F' H' → Q b H'

section
variable {X : Cx} {K : KF} {e a b c : Expr} {es : List Expr} {m m1 m2 m3 : Bool} {env : List Sl} {d d1 d2 : PyData} {ds : List PyData} {pos : Pos}
theorem pmono {t t' : TE} (h : PE X e t) (k : ∀ σ H Q, t' σ H Q → t σ H Q) : PE X e t' := ⟨fun pins s σ H Q I q => h.run pins s σ H Q I (k σ H Q q)⟩
theorem ptmono {t t' : TT} (h : PT X e t) (k : ∀ σ H Q, t' σ H Q → t σ H Q) : PT X e t' := ⟨fun pins s σ H Q I q => h.run pins s σ H Q I (k σ H Q q)⟩
theorem pamono {t t' : TA} (h : PA X es t) (k : ∀ σ H Q, t' σ H Q → t σ H Q) : PA X es t' := ⟨fun pos pins s σ H Q I q => h.run pos pins s σ H Q I (k σ H Q q)⟩
theorem psmono {st : Stmt} {t t' : TS} (h : PS X st t) (k : ∀ D σ H, t' D σ H → t D σ H) : PS X st t' := ⟨fun pins s σ H D I q => h.run pins s σ H D I (k D σ H q)⟩
theorem pssmono {st : List Stmt} {t t' : TS} (h : PSs X st t) (k : ∀ D σ H, t' D σ H → t D σ H) : PSs X st t' := ⟨fun pins s σ H D I q => h.run pins s σ H D I (k D σ H q)⟩
theorem seldq {F H : Hp} {v : V} (e : Ex F H) (h : Dq K (sel m F H) v d) : Dq K H v d := by
  cases m with
  | true => exact Dq.up (show Dq K F v d from h) e
  | false => exact h
theorem selup {F H F' H' : Hp} {v : V} (g : Grow F H F' H') (h : Dq K (sel m F H) v d) : Dq K (sel m F' H') v d := by
  cases m with
  | true => exact Dq.up (show Dq K F v d from h) g.ff
  | false => exact Dq.up (show Dq K H v d from h) g.hh
theorem selsc {F H : Hp} {v : V} (s : scalD d = true) (h : Dq K (sel m F H) v d) {H' : Hp} : Dq K H' v d := h.scal s
theorem seldn {F H : Hp} {v : V} (e : Ex F H) (h : Dq K F v d) : Dq K (sel m F H) v d := by
  cases m with
  | true => exact h
  | false => exact h.up e

/-! conversions -/
theorem e_low (h : PE X e (tE K true env d)) : PE X e (tE K m env d) := pmono h fun σ H Q ⟨F0, H0, F, ok, k⟩ => ⟨F0, H0, F, ok, fun v F' H' g x => k v F' H' g (seldn g.fh x)⟩
theorem e_sc (s : scalD d = true) (h : PE X e (tE K m1 env d)) : PE X e (tE K m env d) := pmono h fun σ H Q ⟨F0, H0, F, ok, k⟩ => ⟨F0, H0, F, ok, fun v F' H' g x => k v F' H' g (selsc s x)⟩
theorem l_e (h : PE X e (tE K true env (.list ds))) : PE X e (tL K env ds) := pmono h fun σ H Q ⟨F0, H0, F, ok, k⟩ => ⟨F0, H0, F, ok, fun v F' H' g x => by
  cases (show Dq K F' v (.list ds) from x) with
  | lst h1 h2 => exact k _ _ F' H' g (g.fh _ _ h1) h2⟩
theorem l_o (h : PE X e (tO K env ds)) : PE X e (tL K env ds) := pmono h fun σ H Q ⟨F0, H0, F, ok, k⟩ => ⟨F0, H0, F, ok, fun p vs F' H' g n n' x y => k p vs F' H' g x y⟩
theorem e_o (h : PE X e (tO K env ds)) : PE X e (tE K m env (.list ds)) := pmono h fun σ H Q ⟨F0, H0, F, ok, k⟩ => ⟨F0, H0, F, ok, fun p vs F' H' g n n' x y => by
  refine k (.ref p) (upd F' p (.lst vs)) H' ⟨g.ff.trans (Ex.new n'), g.hh, g.fh.at_ x, fun a h0 h1 => ?_⟩ (seldn (g.fh.at_ x) (.lst upd_same (y.up (Ex.new n'))))
  by_cases ha : a = p
  · subst ha; exact absurd n h1
  · rw [upd_ne ha]; exact g.old a h0 h1⟩
theorem e_l (h : PE X e (tL K env ds)) : PE X e (tE K false env (.list ds)) := pmono h fun σ H Q ⟨F0, H0, F, ok, k⟩ => ⟨F0, H0, F, ok, fun p vs F' H' g x y => k (.ref p) F' H' g (.lst x (y.up g.fh))⟩
theorem a_low (h : PA X es (tA K true env ds)) : PA X es (tA K m env ds) := pamono h fun σ H Q ⟨F0, H0, F, ok, k⟩ => ⟨F0, H0, F, ok, fun v F' H' g x => k v F' H' g (by
  cases m with
  | true => exact x
  | false => exact DqAll.up (show DqAll K F' v ds from x) g.fh)⟩

/-! names and constants -/
theorem pe_dat {x : Str} (i : Nat) (hN : X.N[i]? = some x) (hv : Vis X.env.scope x) (he : env[i]? = some (.dat d)) (hd : (x == ("__debug__" : Str)) = false := by decide) (hcd : (x == ("__classdict__" : Str)) = false := by decide) : PE X (.Name x pos) (tE K m env d) :=
  pmono (pe_var hN hv hd hcd) fun σ H Q ⟨F0, H0, F, ok, k⟩ => by
    obtain ⟨v, h1, h2⟩ := ok.dat i d he
    exact ⟨v, h1, k v F H (Grow.refl ok.g.fh) (seldn ok.g.fh h2)⟩
theorem pl_own {x : Str} (i : Nat) (hN : X.N[i]? = some x) (hv : Vis X.env.scope x) (he : env[i]? = some (.own ds)) (hd : (x == ("__debug__" : Str)) = false := by decide) (hcd : (x == ("__classdict__" : Str)) = false := by decide) : PE X (.Name x pos) (tL K env ds) :=
  pmono (pe_var hN hv hd hcd) fun σ H Q ⟨F0, H0, F, ok, k⟩ => by
    obtain ⟨p, vs, h1, h2, h3, h4, h5⟩ := ok.own i ds he
    exact ⟨.ref p, h1, k p vs F H (Grow.refl ok.g.fh) h4 h5⟩
theorem e_const {v : V} (h : PE X e (tC v)) (hd : ∀ H, Dq K H v d) : PE X e (tE K m env d) := pmono h fun σ H Q ⟨F0, H0, F, ok, k⟩ => k v F H (Grow.refl ok.g.fh) (hd _)
theorem e_int {i : Int} {j : Nat} : PE X (.Constant (.int i) j pos) (tE K m env (.int i)) := e_const pe_int fun _ => .int i
theorem e_bl {i : Bool} {j : Nat} : PE X (.Constant (.bool i) j pos) (tE K m env (.bool i)) := e_const pe_bl fun _ => .bl i
theorem e_non {j : Nat} : PE X (.Constant .none j pos) (tE K m env .none) := e_const pe_non fun _ => .non
theorem e_str {x : Str} {j : Nat} : PE X (.Constant (.str x) j pos) (tE K m env (.str x)) := e_const pe_str fun _ => .str x

/-! operators whose answer needs no heap -/
theorem r_bin {r : R2} {z : V} {t : TE} (ha : PE X a (tE K m1 env d1)) (hb : PE X b (tE K m2 env d2)) (h : PE X e t) (ht : t = tOp r (tE K m1 env d1) (tE K m2 env d2))
    (hr : ∀ x y H Q, Dq K H x d1 → Dq K H y d2 → Q z H → r x y H Q) (hz : ∀ H, Dq K H z d) : PE X e (tE K m env d) := by
  subst ht
  exact pmono h fun σ H Q ⟨F0, H0, F, ok, k⟩ => ⟨F0, H0, F, ok, fun x F1 H1 g1 x1 => ⟨F0, H0, F1, ok.grow g1, fun y F2 H2 g2 y2 =>
    hr x y H2 Q (seldq g2.fh (selup g2 x1)) (seldq g2.fh y2) (k z F2 H2 (g1.trans g2) (hz _))⟩⟩
theorem e_bin {op : Operator} {r : R2} {z : V} (ho : OpR X (binaryOp op) r) (ha : PE X a (tE K m1 env d1)) (hb : PE X b (tE K m2 env d2))
    (hr : ∀ x y H Q, Dq K H x d1 → Dq K H y d2 → Q z H → r x y H Q) (hz : ∀ H, Dq K H z d) : PE X (.BinOp a op b pos) (tE K m env d) := r_bin ha hb (pe_op ho ha hb) rfl hr hz
theorem e_cmp {op : CmpOp} {r : R2} {z : V} (ho : OpR X (compareOp op) r) (ha : PE X a (tE K m1 env d1)) (hb : PE X b (tE K m2 env d2)) (hm : behindInMarks op b = false)
    (hr : ∀ x y H Q, Dq K H x d1 → Dq K H y d2 → Q z H → r x y H Q) (hz : ∀ H, Dq K H z d) : PE X (.Compare a [op] [b] pos) (tE K m env d) := r_bin ha hb (pe_cmpR ho ha hb hm) rfl hr hz
theorem e_un {op : UnaryOp} {r : V → Hp → VK → Prop} {z : V} (ho : UnR X (unaryOp op) r) (ha : PE X a (tE K m1 env d1)) (hr : ∀ x H Q, Dq K H x d1 → Q z H → r x H Q) (hz : ∀ H, Dq K H z d) : PE X (.UnaryOp op a pos) (tE K m env d) :=
  pmono (pe_un ho ha) fun σ H Q ⟨F0, H0, F, ok, k⟩ => ⟨F0, H0, F, ok, fun x F1 H1 g1 x1 => hr x H1 Q (seldq g1.fh x1) (k z F1 H1 g1 (hz _))⟩
section
variable {i j : Int}
theorem e_I {op : Operator} {g : Int → Int → Int} {C : Int → Int → Prop} (ho : OpR X (binaryOp op) (rI C fun i j => .int (g i j))) (hc : C i j) (ha : PE X a (tE K m1 env (.int i))) (hb : PE X b (tE K m2 env (.int j))) : PE X (.BinOp a op b pos) (tE K m env (.int (g i j))) :=
  e_bin ho ha hb (fun x y H Q hx hy q => by cases hx; cases hy; exact ⟨i, j, rfl, rfl, hc, q⟩) fun _ => .int _
theorem e_I0 {op : Operator} {g : Int → Int → Int} (ho : OpR X (binaryOp op) (rI0 fun i j => .int (g i j))) (ha : PE X a (tE K m1 env (.int i))) (hb : PE X b (tE K m2 env (.int j))) : PE X (.BinOp a op b pos) (tE K m env (.int (g i j))) :=
  e_bin ho ha hb (fun x y H Q hx hy q => by cases hx; cases hy; exact ⟨i, j, rfl, rfl, q⟩) fun _ => .int _
theorem e_add (ha : PE X a (tE K true env (.int i))) (hb : PE X b (tE K true env (.int j))) : PE X (.BinOp a .Add b pos) (tE K m env (.int (i + j))) := e_I0 (g := fun i j => i + j) op_add ha hb
theorem e_sub (ha : PE X a (tE K true env (.int i))) (hb : PE X b (tE K true env (.int j))) : PE X (.BinOp a .Sub b pos) (tE K m env (.int (i - j))) := e_I0 (g := fun i j => i - j) op_sub ha hb
theorem e_mod (ha : PE X a (tE K true env (.int i))) (hb : PE X b (tE K true env (.int j))) (hj : 0 < j) : PE X (.BinOp a .Mod b pos) (tE K m env (.int (i % j))) := e_I (g := fun i j => i % j) op_mod hj ha hb
theorem e_fdiv (ha : PE X a (tE K true env (.int i))) (hb : PE X b (tE K true env (.int j))) (hj : 0 < j ∧ j < 1073741824) : PE X (.BinOp a .FloorDiv b pos) (tE K m env (.int (i / j))) := e_I (g := fun i j => i / j) op_fdiv hj ha hb
theorem e_pow (ha : PE X a (tE K true env (.int i))) (hb : PE X b (tE K true env (.int j))) (hj : 0 ≤ j ∧ j ≤ 1000000 ∧ i.natAbs < 2 ^ 64) : PE X (.BinOp a .Pow b pos) (tE K m env (.int (i ^ j.toNat))) := e_I (g := fun i j => i ^ j.toNat) op_pow hj ha hb
theorem e_neg (ha : PE X a (tE K true env (.int i))) : PE X (.UnaryOp .USub a pos) (tE K m env (.int (-i))) := e_un un_neg ha (fun x H Q hx q => by cases hx; exact ⟨i, rfl, q⟩) fun _ => .int _
theorem e_cB {op : CmpOp} {g : Int → Int → Bool} (ho : OpR X (compareOp op) (rI0 fun i j => .bl (g i j))) (ha : PE X a (tE K true env (.int i))) (hb : PE X b (tE K true env (.int j))) (hm : behindInMarks op b = false) : PE X (.Compare a [op] [b] pos) (tE K m env (.bool (g i j))) :=
  e_cmp ho ha hb hm (fun x y H Q hx hy q => by cases hx; cases hy; exact ⟨i, j, rfl, rfl, q⟩) fun _ => .bl _
theorem e_lt (ha : PE X a (tE K true env (.int i))) (hb : PE X b (tE K true env (.int j))) : PE X (.Compare a [.Lt] [b] pos) (tE K m env (.bool (decide (i < j)))) := e_cB (g := fun i j => decide (i < j)) op_lt ha hb (nomark _)
theorem e_le (ha : PE X a (tE K true env (.int i))) (hb : PE X b (tE K true env (.int j))) : PE X (.Compare a [.LtE] [b] pos) (tE K m env (.bool (decide (i ≤ j)))) := e_cB (g := fun i j => decide (i ≤ j)) op_le ha hb (nomark _)
theorem e_gt (ha : PE X a (tE K true env (.int i))) (hb : PE X b (tE K true env (.int j))) : PE X (.Compare a [.Gt] [b] pos) (tE K m env (.bool (decide (j < i)))) := e_cB (g := fun i j => decide (j < i)) op_gt ha hb (nomark _)
theorem e_ge (ha : PE X a (tE K true env (.int i))) (hb : PE X b (tE K true env (.int j))) : PE X (.Compare a [.GtE] [b] pos) (tE K m env (.bool (decide (j ≤ i)))) := e_cB (g := fun i j => decide (j ≤ i)) op_ge ha hb (nomark _)
/-- ints, fast -/
theorem e_eqI (ha : PE X a (tE K true env (.int i))) (hb : PE X b (tE K true env (.int j))) : PE X (.Compare a [.Eq] [b] pos) (tE K m env (.bool (decide (i = j)))) :=
  e_cmp op_eq ha hb (nomark _) (fun x y H Q hx hy q => by cases hx; cases hy; exact ⟨rfl, by
    have : decide (V.int i = V.int j) = decide (i = j) := by simp
    rw [this]; exact q⟩) fun _ => .bl _
theorem e_neI (ha : PE X a (tE K true env (.int i))) (hb : PE X b (tE K true env (.int j))) : PE X (.Compare a [.NotEq] [b] pos) (tE K m env (.bool (!decide (i = j)))) :=
  e_cmp op_ne ha hb (nomark _) (fun x y H Q hx hy q => by cases hx; cases hy; exact ⟨rfl, by
    have : decide (V.int i = V.int j) = decide (i = j) := by simp
    rw [this]; exact q⟩) fun _ => .bl _
end
/-- any data -/
theorem e_eqD (hu : X.A.units + 64 < cLine) (ha : PE X a (tE X.K m1 env d1)) (hb : PE X b (tE X.K m2 env d2)) (s1 : SeqAt.shaped d1 = true) (s2 : SeqAt.shaped d2 = true) : PE X (.Compare a [.Eq] [b] pos) (tE X.K m env (.bool (PyData.eqv d1 d2))) :=
  e_cmp (op_eqD hu) ha hb (nomark _) (fun x y H Q hx hy q => ⟨d1, d2, Dq.dp _ _ hx, Dq.dp _ _ hy, s1, s2, q⟩) fun _ => .bl _
theorem e_neD (hu : X.A.units + 64 < cLine) (ha : PE X a (tE X.K m1 env d1)) (hb : PE X b (tE X.K m2 env d2)) (s1 : SeqAt.shaped d1 = true) (s2 : SeqAt.shaped d2 = true) : PE X (.Compare a [.NotEq] [b] pos) (tE X.K m env (.bool (!PyData.eqv d1 d2))) :=
  e_cmp (op_neD hu) ha hb (nomark _) (fun x y H Q hx hy q => ⟨d1, d2, Dq.dp _ _ hx, Dq.dp _ _ hy, s1, s2, q⟩) fun _ => .bl _

/-! tests, and, or, not, if -/
theorem t_val {k : Bool} (h : PE X e (tE K true env (.bool k))) (he : ∀ whole, isTrue e X.env whole = (do let v ← whole; standAt e.pos; holding [v] (truthy v)) := by intro _; rfl) : PT X e (tT K env k) :=
  ptmono (pt_val h he) fun σ H Q ⟨F0, H0, F, ok, q⟩ => ⟨F0, H0, F, ok, fun v F' H' g x => by
    cases x
    exact ⟨k, rfl, q F' H' g⟩⟩
theorem t_ok {k : Bool} {F0 H0 F H : Hp} {σ : St} {Q : Bool → Hp → Prop} (ok : Ok K F0 H0 env σ F H) (q : ∀ F' H', Grow F H F' H' → Q k H') : tT K env k σ H Q := ⟨F0, H0, F, ok, q⟩
theorem t_and2 {k l : Bool} (ha : PT X a (tT K env k)) (hb : PT X b (tT K env l)) : PT X (.BoolOp .And [a, b] pos) (tT K env (k && l)) :=
  ptmono (pw_and ha (pw_and1 hb)).pt fun σ H Q ⟨F0, H0, F, ok, q⟩ => ⟨F0, H0, F, ok, fun F1 H1 g1 => by
    cases k with
    | true => exact ⟨F0, H0, F1, ok.grow g1, fun F2 H2 g2 => q F2 H2 (g1.trans g2)⟩
    | false => exact q F1 H1 g1⟩
/-- and, or: the second one is asked only if the first one lets it -/
theorem w_one {op : BoolOp} {k : Bool} (ha : PT X a (tT K env k)) : PW X (.BoolOp op [a] pos) (tT K env k) := by
  cases op with
  | And => exact pw_and1 ha
  | Or => exact pw_or1 ha
theorem wmono {t t' : TT} (h : PW X e t) (k : ∀ σ H Q, t' σ H Q → t σ H Q) : PW X e t' := ⟨fun wh pins s σ H Q I q => h.run wh pins s σ H Q I (k σ H Q q)⟩
theorem pw_any : PW X e (fun _ _ _ => False) := ⟨fun _ _ _ _ _ _ _ h => h.elim⟩
theorem pt_any : PT X e (fun _ _ _ => False) := ⟨fun _ _ _ _ _ _ h => h.elim⟩
theorem pe_any : PE X e (fun _ _ _ => False) := ⟨fun _ _ _ _ _ _ h => h.elim⟩
theorem w_and {k l : Bool} (ha : PT X a (tT K env k)) (hb : k = true → PW X (.BoolOp .And (b :: es) pos) (tT K env l)) : PW X (.BoolOp .And (a :: b :: es) pos) (tT K env (k && l)) := by
  cases k with
  | true => exact wmono (pw_and ha (hb rfl)) fun σ H Q ⟨F0, H0, F, ok, q⟩ => ⟨F0, H0, F, ok, fun F1 H1 g1 => ⟨F0, H0, F1, ok.grow g1, fun F2 H2 g2 => q F2 H2 (g1.trans g2)⟩⟩
  | false => exact wmono (pw_and ha pw_any) fun σ H Q ⟨F0, H0, F, ok, q⟩ => ⟨F0, H0, F, ok, fun F1 H1 g1 => q F1 H1 g1⟩
theorem w_or {k l : Bool} (ha : PT X a (tT K env k)) (hb : k = false → PW X (.BoolOp .Or (b :: es) pos) (tT K env l)) : PW X (.BoolOp .Or (a :: b :: es) pos) (tT K env (k || l)) := by
  cases k with
  | false => exact wmono (pw_or ha (hb rfl)) fun σ H Q ⟨F0, H0, F, ok, q⟩ => ⟨F0, H0, F, ok, fun F1 H1 g1 => ⟨F0, H0, F1, ok.grow g1, fun F2 H2 g2 => q F2 H2 (g1.trans g2)⟩⟩
  | true => exact wmono (pw_or ha pw_any) fun σ H Q ⟨F0, H0, F, ok, q⟩ => ⟨F0, H0, F, ok, fun F1 H1 g1 => q F1 H1 g1⟩
theorem t_w {k : Bool} (h : PW X e (tT K env k)) : PT X e (tT K env k) := h.pt
theorem t_not {k : Bool} (ha : PT X a (tT K env k)) : PT X (.UnaryOp .Not a pos) (tT K env (!k)) :=
  ptmono (pt_not ha) fun σ H Q ⟨F0, H0, F, ok, q⟩ => ⟨F0, H0, F, ok, fun F1 H1 g1 => q F1 H1 g1⟩
theorem e_one {op : BoolOp} {k : Bool} (ha : PE X a (tE K m env (.bool k))) : PE X (.BoolOp op [a] pos) (tE K m env (.bool k)) := pe_one ha
theorem e_and {k l : Bool} (ha : PE X a (tE K true env (.bool k))) (hb : k = true → PE X (.BoolOp .And (b :: es) pos) (tE K m env (.bool l))) : PE X (.BoolOp .And (a :: b :: es) pos) (tE K m env (.bool (k && l))) := by
  cases k with
  | true => exact pmono (pe_and ha (hb rfl)) fun σ H Q ⟨F0, H0, F, ok, q⟩ => ⟨F0, H0, F, ok, fun v F1 H1 g1 x => by
      cases x
      exact ⟨true, rfl, F0, H0, F1, ok.grow g1, fun v F2 H2 g2 x2 => q v F2 H2 (g1.trans g2) x2⟩⟩
  | false => exact pmono (pe_and ha pe_any) fun σ H Q ⟨F0, H0, F, ok, q⟩ => ⟨F0, H0, F, ok, fun v F1 H1 g1 x => by
      cases x
      exact ⟨false, rfl, q _ F1 H1 g1 (.bl false)⟩⟩
theorem e_or {k l : Bool} (ha : PE X a (tE K true env (.bool k))) (hb : k = false → PE X (.BoolOp .Or (b :: es) pos) (tE K m env (.bool l))) : PE X (.BoolOp .Or (a :: b :: es) pos) (tE K m env (.bool (k || l))) := by
  cases k with
  | false => exact pmono (pe_or ha (hb rfl)) fun σ H Q ⟨F0, H0, F, ok, q⟩ => ⟨F0, H0, F, ok, fun v F1 H1 g1 x => by
      cases x
      exact ⟨false, rfl, F0, H0, F1, ok.grow g1, fun v F2 H2 g2 x2 => q v F2 H2 (g1.trans g2) x2⟩⟩
  | true => exact pmono (pe_or ha pe_any) fun σ H Q ⟨F0, H0, F, ok, q⟩ => ⟨F0, H0, F, ok, fun v F1 H1 g1 x => by
      cases x
      exact ⟨true, rfl, q _ F1 H1 g1 (.bl true)⟩⟩
theorem e_not {k : Bool} (ha : PE X a (tE K true env (.bool k))) : PE X (.UnaryOp .Not a pos) (tE K m env (.bool (!k))) :=
  pmono (pe_not ha) fun σ H Q ⟨F0, H0, F, ok, q⟩ => ⟨F0, H0, F, ok, fun v F1 H1 g1 x => by
    cases x
    exact ⟨k, rfl, q _ F1 H1 g1 (.bl _)⟩⟩
theorem e_if {k : Bool} (hc : PT X c (tT K env k)) (ha : k = true → PE X a (tE K m env d)) (hb : k = false → PE X b (tE K m env d)) : PE X (.IfExp c a b pos) (tE K m env d) := by
  cases k with
  | true => exact pmono (pe_ifExp hc (ha rfl) pe_any) fun σ H Q ⟨F0, H0, F, ok, q⟩ => ⟨F0, H0, F, ok, fun F1 H1 g1 => ⟨F0, H0, F1, ok.grow g1, fun v F2 H2 g2 x => q v F2 H2 (g1.trans g2) x⟩⟩
  | false => exact pmono (pe_ifExp hc pe_any (hb rfl)) fun σ H Q ⟨F0, H0, F, ok, q⟩ => ⟨F0, H0, F, ok, fun F1 H1 g1 => ⟨F0, H0, F1, ok.grow g1, fun v F2 H2 g2 x => q v F2 H2 (g1.trans g2) x⟩⟩

/-! argument lists, displays -/
theorem a_nil : PA X [] (tA K m env []) := pamono pa_nil fun σ H Q ⟨F0, H0, F, ok, q⟩ => q [] F H (Grow.refl ok.g.fh) .nil
theorem dqselup {F H F' H' : Hp} {vs : List V} (g : Grow F H F' H') (h : DqAll K (sel m F H) vs ds) : DqAll K (sel m F' H') vs ds := by
  cases m with
  | true => exact DqAll.up (show DqAll K F vs ds from h) g.ff
  | false => exact DqAll.up (show DqAll K H vs ds from h) g.hh
theorem a_cons (ha : PE X a (tE K m env d)) (hs : PA X es (tA K m env ds)) (hst : starEach (a :: es) X.env = (false, eval a X.env) :: starEach es X.env := by rfl) : PA X (a :: es) (tA K m env (d :: ds)) :=
  pamono (pa_cons ha hs hst) fun σ H Q ⟨F0, H0, F, ok, q⟩ => ⟨F0, H0, F, ok, fun v F1 H1 g1 x1 => ⟨F0, H0, F1, ok.grow g1, fun vs F2 H2 g2 x2 => q (v :: vs) F2 H2 (g1.trans g2) (.cons (selup g2 x1) x2)⟩⟩
theorem o_list (h : PA X es (tA K true env ds)) (hl : ds.length ≤ sizeLine) : PE X (.List es pos) (tO K env ds) :=
  pmono (pe_lst h) fun σ H Q ⟨F0, H0, F, ok, q⟩ => ⟨F0, H0, F, ok, fun vs F1 H1 g1 x1 => ⟨by
    have := DqAll.length (show DqAll K F1 vs ds from x1)
    omega, fun p hp => q p vs F1 (upd H1 p (.lst vs)) (g1.trans (Grow.own g1.fh hp)) (g1.hh.back hp) (g1.fh.back hp) upd_same x1⟩⟩
theorem e_tup {x1} (h : PA X es (tA K true env ds)) (hl : ds.length ≤ sizeLine) : PE X (.Tuple es x1 pos) (tE K m env (.tuple ds)) :=
  pmono (pe_tup h) fun σ H Q ⟨F0, H0, F, ok, q⟩ => ⟨F0, H0, F, ok, fun vs F1 H1 g1 x1 => ⟨by
    have := DqAll.length (show DqAll K F1 vs ds from x1)
    omega, fun p hp => q (.ref p) (upd F1 p (.tup vs)) (upd H1 p (.tup vs)) (g1.trans (Grow.new g1.fh hp)) (seldn (g1.fh.both) (.tup (.inl (.inl upd_same)) (DqAll.up (show DqAll K F1 vs ds from x1) (Ex.new (g1.fh.back hp)))))⟩⟩
end
end D3
namespace D3
open PySem PySem.Spec L2

section
variable {X : Cx} {K : KF} {e a b c : Expr} {es : List Expr} {m m1 m2 m3 : Bool} {env : List Sl} {d d1 d2 : PyData} {ds ds1 ds2 : List PyData} {pos p1 p2 p3 p4 : Pos}
abbrev NS (X : Cx) (e : Expr) : Prop := ∀ es, starEach (e :: es) X.env = (false, eval e X.env) :: starEach es X.env
theorem sqOf {H : Hp} {p : Addr} {vs : List V} (h : H p = some (.lst vs)) : SqL K H p vs := .inl (.inl h)

/-! ### len -/
theorem e_len (hm : X.mg "len" = none) (h : PE X e (tL X.K env ds)) (hg : Gl X "len" := by rfl) (ns : NS X e := by exact fun _ => rfl) : PE X (.Call (.Name "len" p1) [e] [] pos) (tE X.K m env (.int (ds.length : Int))) :=
  pmono (pe_callB call_len_seq hg hm PySem.boot_len (pa_cons h pa_nil (ns [])) (he := ns [])) fun σ H Q ⟨F0, H0, F, ok, k⟩ => ⟨F0, H0, F, ok, fun p vs F' H' g x y => ⟨p, vs, rfl, .inl (sqOf x), k _ F' H' g (by rw [y.length]; exact .int _)⟩⟩
theorem e_lenT (hm : X.mg "len" = none) (h : PE X e (tE X.K true env (.tuple ds))) (hg : Gl X "len" := by rfl) (ns : NS X e := by exact fun _ => rfl) : PE X (.Call (.Name "len" p1) [e] [] pos) (tE X.K m env (.int (ds.length : Int))) :=
  pmono (pe_callB call_len_seq hg hm PySem.boot_len (pa_cons h pa_nil (ns [])) (he := ns [])) fun σ H Q ⟨F0, H0, F, ok, k⟩ => ⟨F0, H0, F, ok, fun v F' H' g x => by
    cases (show Dq X.K F' v (.tuple ds) from x) with
    | tup h1 h2 => exact ⟨_, _, rfl, .inr (ex_t g.fh h1), k _ F' H' g (by rw [h2.length]; exact .int _)⟩⟩
theorem e_lenS {z : Str} (hm : X.mg "len" = none) (hz : z.length ≤ sizeLine) (h : PE X e (tE X.K true env (.str z))) (hg : Gl X "len" := by rfl) (ns : NS X e := by exact fun _ => rfl) : PE X (.Call (.Name "len" p1) [e] [] pos) (tE X.K m env (.int (z.length : Int))) :=
  pmono (pe_callB call_len_str hg hm PySem.boot_len (pa_cons h pa_nil (ns [])) (he := ns [])) fun σ H Q ⟨F0, H0, F, ok, k⟩ => ⟨F0, H0, F, ok, fun v F' H' g x => by
    cases x
    exact ⟨z, rfl, hz, k _ F' H' g (.int _)⟩⟩
/-- len(script) -/
theorem e_lenScr {x : Str} {ns : List Int} (i : Nat) (hm : X.mg "len" = none) (he : env[i]? = some (.scr ns)) (hN : X.N[i]? = some x) (hv : Vis X.env.scope x) (hd : (x == ("__debug__" : Str)) = false := by decide) (hcd : (x == ("__classdict__" : Str)) = false := by decide) (hg : Gl X "len" := by rfl) :
    PE X (.Call (.Name "len" p1) [.Name x p2] [] pos) (tE X.K m env (.int (ns.length : Int))) :=
  pmono (pe_callB call_len_seq hg hm PySem.boot_len (pa_cons (pe_var hN hv hd hcd) pa_nil)) fun σ H Q ⟨F0, H0, F, ok, k⟩ => by
    obtain ⟨a, h1, h2⟩ := ok.scr i ns he
    exact ⟨.ref a, h1, a, _, rfl, .inl (ex_l ok.g.fh h2), k _ F H (Grow.refl ok.g.fh) (by rw [List.length_map]; exact .int _)⟩

/-! ### an item -/
theorem atI_dq {F : Hp} {vs : List V} {i : Int} (h : DqAll K F vs ds) (ha : atI ds i = some d) : ∃ v, atI vs i = some v ∧ Dq K F v d := by
  unfold atI at ha ⊢
  rw [h.length]
  cases hx : ixN ds.length i with
  | none => rw [hx] at ha; cases ha
  | some j =>
    rw [hx] at ha
    exact h.get ha
theorem e_ix {i : Int} (h : PE X a (tL X.K env ds)) (hb : PE X b (tE X.K true env (.int i))) (ha : atI ds i = some d) (hs : PlainIx b := by exact fun _ _ => rfl) : PE X (.Subscript a b pos) (tE X.K m env d) :=
  pmono (pe_ix ix_list h hb hs) fun σ H Q ⟨F0, H0, F, ok, k⟩ => ⟨F0, H0, F, ok, fun p vs F1 H1 g1 x y => ⟨F0, H0, F1, ok.grow g1, fun v F2 H2 g2 z => by
    cases z
    obtain ⟨v, q1, q2⟩ := atI_dq y ha
    exact ⟨p, vs, i, v, rfl, rfl, sqOf (g2.hh _ _ x), q1, k v F2 H2 (g1.trans g2) (seldn g2.fh (q2.up g2.ff))⟩⟩⟩
theorem e_ixT {i : Int} (h : PE X a (tE X.K true env (.tuple ds))) (hb : PE X b (tE X.K true env (.int i))) (ha : atI ds i = some d) (hs : PlainIx b := by exact fun _ _ => rfl) : PE X (.Subscript a b pos) (tE X.K m env d) :=
  pmono (pe_ix ix_tup h hb hs) fun σ H Q ⟨F0, H0, F, ok, k⟩ => ⟨F0, H0, F, ok, fun v F1 H1 g1 x => ⟨F0, H0, F1, ok.grow g1, fun w F2 H2 g2 z => by
    cases z
    cases (show Dq X.K F1 v (.tuple ds) from x) with
    | tup h1 h2 =>
      obtain ⟨v, q1, q2⟩ := atI_dq h2 ha
      exact ⟨_, _, i, v, rfl, rfl, ex_t (g1.fh.trans g2.hh) h1, q1, k v F2 H2 (g1.trans g2) (seldn g2.fh (q2.up g2.ff))⟩⟩⟩
theorem e_ixS {i : Int} {z : Str} {c : Nat} (h : PE X a (tE X.K true env (.str z))) (hb : PE X b (tE X.K true env (.int i))) (hz : z.length ≤ sizeLine) (ha : atI z.cps.toList i = some c) (hs : PlainIx b := by exact fun _ _ => rfl) : PE X (.Subscript a b pos) (tE X.K m env (.str ⟨#[c]⟩)) :=
  pmono (pe_ix ix_str h hb hs) fun σ H Q ⟨F0, H0, F, ok, k⟩ => ⟨F0, H0, F, ok, fun v F1 H1 g1 x => ⟨F0, H0, F1, ok.grow g1, fun w F2 H2 g2 y => by
    cases x
    cases y
    exact ⟨z, i, c, rfl, rfl, hz, ha, k _ F2 H2 (g1.trans g2) (.str _)⟩⟩⟩
/-- script[k] -/
theorem e_ixScr {x : Str} {ns : List Int} {i : Nat} {j n : Int} (he : env[i]? = some (.scr ns)) (hN : X.N[i]? = some x) (hv : Vis X.env.scope x) (hb : PE X b (tE X.K true env (.int j))) (ha : atI ns j = some n) (hs : PlainIx b := by exact fun _ _ => rfl)
    (hd : (x == ("__debug__" : Str)) = false := by decide) (hcd : (x == ("__classdict__" : Str)) = false := by decide) : PE X (.Subscript (.Name x p1) b pos) (tE X.K m env (.int n)) :=
  pmono (pe_ix ix_list (pe_var hN hv hd hcd) hb hs) fun σ H Q ⟨F0, H0, F, ok, k⟩ => by
    obtain ⟨a, h1, h2⟩ := ok.scr i ns he
    refine ⟨.ref a, h1, F0, H0, F, ok, fun w F2 H2 g2 z => ?_⟩
    cases z
    refine ⟨a, _, j, .int n, rfl, rfl, ex_l (ok.g.fh.trans g2.hh) h2, ?_, k _ F2 H2 g2 (.int _)⟩
    unfold atI at ha ⊢
    rw [List.length_map]
    cases hx : ixN ns.length j with
    | none => rw [hx] at ha; cases ha
    | some q =>
      rw [hx] at ha
      show (ns.map V.int)[q]? = some (.int n)
      rw [List.getElem?_map, show ns[q]? = some n from ha]; rfl

/-! ### slices -/
theorem dq_cut {F : Hp} {vs : List V} (lo hi : Option Int) (h : DqAll K F vs ds) : DqAll K F (cutV vs lo hi) ((ds.drop (HT.sIx ds.length 0 lo)).take (HT.sIx ds.length ds.length hi - HT.sIx ds.length 0 lo)) := by
  unfold cutV
  rw [h.length]
  exact (h.drop _).take _
def cutD {α : Type} (ds : List α) (lo hi : Option Int) : List α := (ds.drop (HT.sIx ds.length 0 lo)).take (HT.sIx ds.length ds.length hi - HT.sIx ds.length 0 lo)
def tOp_ (K : KF) (env : List Sl) (o : Option Int) : TO := fun σ H Q => ∃ F0 H0 F, Ok K F0 H0 env σ F H ∧ ∀ F' H', Grow F H F' H' → Q o H'
theorem pomono {eo : Option Expr} {t t' : TO} (h : PO X eo t) (k : ∀ σ H Q, t' σ H Q → t σ H Q) : PO X eo t' := ⟨fun pins s σ H Q I q => h.run pins s σ H Q I (k σ H Q q)⟩
theorem o_no : PO X none (tOp_ K env none) := pomono po_none fun σ H Q ⟨F0, H0, F, ok, k⟩ => k F H (Grow.refl ok.g.fh)
theorem o_so {i : Int} (h : PE X e (tE K true env (.int i))) : PO X (some e) (tOp_ K env (some i)) := pomono (po_some h) fun σ H Q ⟨F0, H0, F, ok, k⟩ => ⟨F0, H0, F, ok, fun v F1 H1 g1 x => by
  cases x
  exact ⟨i, rfl, k F1 H1 g1⟩⟩
theorem o_sl {lo hi : Option Int} {elo ehi : Option Expr} (h : PE X e (tL X.K env ds)) (hl : PO X elo (tOp_ X.K env lo)) (hh : PO X ehi (tOp_ X.K env hi)) : PE X (.Subscript e (.Slice elo ehi none p2) pos) (tO X.K env (cutD ds lo hi)) :=
  pmono (pe_slice sl_list h hl hh) fun σ H Q ⟨F0, H0, F, ok, k⟩ => ⟨F0, H0, F, ok, fun p vs F1 H1 g1 x y => ⟨F0, H0, F1, ok.grow g1, fun F2 H2 g2 => ⟨F0, H0, F2, (ok.grow g1).grow g2, fun F3 H3 g3 =>
    ⟨p, vs, rfl, sqOf (g3.hh _ _ (g2.hh _ _ x)), fun q hq => k q _ F3 _ (((g1.trans g2).trans g3).trans (Grow.own g3.fh hq)) (((g1.trans g2).trans g3).hh.back hq) (g3.fh.back hq) upd_same (dq_cut lo hi (y.up (g2.ff.trans g3.ff)))⟩⟩⟩⟩
theorem e_slS {lo hi : Option Int} {elo ehi : Option Expr} {z : Str} (hz : z.length ≤ sizeLine) (h : PE X e (tE X.K true env (.str z))) (hl : PO X elo (tOp_ X.K env lo)) (hh : PO X ehi (tOp_ X.K env hi)) : PE X (.Subscript e (.Slice elo ehi none p2) pos) (tE X.K m env (.str (cutS z lo hi))) :=
  pmono (pe_slice sl_str h hl hh) fun σ H Q ⟨F0, H0, F, ok, k⟩ => ⟨F0, H0, F, ok, fun v F1 H1 g1 x => ⟨F0, H0, F1, ok.grow g1, fun F2 H2 g2 => ⟨F0, H0, F2, (ok.grow g1).grow g2, fun F3 H3 g3 => by
    cases x
    exact ⟨z, rfl, hz, k _ F3 H3 ((g1.trans g2).trans g3) (.str _)⟩⟩⟩⟩

/-! ### new lists -/
theorem o_cat (ha : PE X a (tL X.K env ds1)) (hb : PE X b (tL X.K env ds2)) (hz : ds1.length + ds2.length ≤ sizeLine) : PE X (.BinOp a .Add b pos) (tO X.K env (ds1 ++ ds2)) :=
  pmono (pe_op op_cat ha hb) fun σ H Q ⟨F0, H0, F, ok, k⟩ => ⟨F0, H0, F, ok, fun p vs F1 H1 g1 x y => ⟨F0, H0, F1, ok.grow g1, fun q ws F2 H2 g2 x2 y2 =>
    ⟨p, q, vs, ws, rfl, rfl, g2.hh _ _ x, x2, by rw [y.length, y2.length]; exact hz, fun r hr => k r _ F2 _ ((g1.trans g2).trans (Grow.own g2.fh hr)) ((g1.trans g2).hh.back hr) (g2.fh.back hr) upd_same ((y.up g2.ff).append y2)⟩⟩⟩
def repD {α : Type} (ds : List α) (k : Int) : List α := (List.replicate k.toNat ds).flatten
theorem dq_rep {F : Hp} {vs : List V} (h : DqAll K F vs ds) : ∀ n : Nat, DqAll K F (List.replicate n vs).flatten (List.replicate n ds).flatten
  | 0 => .nil
  | n + 1 => by
    rw [List.replicate_succ, List.replicate_succ, List.flatten_cons, List.flatten_cons]
    exact h.append (dq_rep h n)
theorem o_rep {k : Int} (ha : PE X a (tL X.K env ds)) (hb : PE X b (tE X.K true env (.int k))) (h1 : -(2 ^ 63) ≤ k ∧ k < 2 ^ 63) (hz : ds.length * k.toNat ≤ sizeLine) : PE X (.BinOp a .Mult b pos) (tO X.K env (repD ds k)) :=
  pmono (pe_op op_rep ha hb) fun σ H Q ⟨F0, H0, F, ok, q⟩ => ⟨F0, H0, F, ok, fun p vs F1 H1 g1 x y => ⟨F0, H0, F1, ok.grow g1, fun w F2 H2 g2 z => by
    cases z
    exact ⟨p, k, vs, rfl, rfl, g2.hh _ _ x, h1.1, h1.2, by rw [y.length]; exact hz, fun r hr => q r _ F2 _ ((g1.trans g2).trans (Grow.own g2.fh hr)) ((g1.trans g2).hh.back hr) (g2.fh.back hr) upd_same (dq_rep (y.up g2.ff) _)⟩⟩⟩
theorem o_listOf (hm : X.mg "list" = none) (h : PE X e (tL X.K env ds)) (hg : Gl X "list" := by rfl) (hv : bootBuiltins "list" = some (.type "list") := by decide +kernel) (ns : NS X e := by exact fun _ => rfl) : PE X (.Call (.Name "list" p1) [e] [] pos) (tO X.K env ds) :=
  pmono (pe_callTy call_list_of hg hm hv (pa_cons h pa_nil (ns [])) (he := ns [])) fun σ H Q ⟨F0, H0, F, ok, k⟩ => ⟨F0, H0, F, ok, fun p vs F1 H1 g1 x y => ⟨p, vs, rfl, .inl (sqOf x), fun r hr => k r vs F1 _ (g1.trans (Grow.own g1.fh hr)) (g1.hh.back hr) (g1.fh.back hr) upd_same y⟩⟩

/-! ### built-ins of ints -/
section
variable {i j : Int}
theorem e_abs (hm : X.mg "abs" = none) (h : PE X e (tE X.K true env (.int i))) (hg : Gl X "abs" := by rfl) (hv : bootBuiltins "abs" = some (.builtin "abs") := by decide +kernel) (ns : NS X e := by exact fun _ => rfl) : PE X (.Call (.Name "abs" p1) [e] [] pos) (tE X.K m env (.int (if i < 0 then -i else i))) :=
  pmono (pe_callB call_abs hg hm hv (pa_cons h pa_nil (ns [])) (he := ns [])) fun σ H Q ⟨F0, H0, F, ok, k⟩ => ⟨F0, H0, F, ok, fun v F1 H1 g1 x => by
    cases x
    exact ⟨i, rfl, k _ F1 H1 g1 (.int _)⟩⟩
theorem e_intI (hm : X.mg "int" = none) (h : PE X e (tE X.K true env (.int i))) (hg : Gl X "int" := by rfl) (hv : bootBuiltins "int" = some (.type "int") := by decide +kernel) (ns : NS X e := by exact fun _ => rfl) : PE X (.Call (.Name "int" p1) [e] [] pos) (tE X.K m env (.int i)) :=
  pmono (pe_callTy call_int1 hg hm hv (pa_cons h pa_nil (ns [])) (he := ns [])) fun σ H Q ⟨F0, H0, F, ok, k⟩ => ⟨F0, H0, F, ok, fun v F1 H1 g1 x => by
    cases x
    exact .inl ⟨i, rfl, k _ F1 H1 g1 (.int _)⟩⟩
theorem e_intB {t : Bool} (hm : X.mg "int" = none) (h : PE X e (tE X.K true env (.bool t))) (hg : Gl X "int" := by rfl) (hv : bootBuiltins "int" = some (.type "int") := by decide +kernel) (ns : NS X e := by exact fun _ => rfl) : PE X (.Call (.Name "int" p1) [e] [] pos) (tE X.K m env (.int (if t then 1 else 0))) :=
  pmono (pe_callTy call_int1 hg hm hv (pa_cons h pa_nil (ns [])) (he := ns [])) fun σ H Q ⟨F0, H0, F, ok, k⟩ => ⟨F0, H0, F, ok, fun v F1 H1 g1 x => by
    cases x
    exact .inr ⟨t, rfl, k _ F1 H1 g1 (.int _)⟩⟩
theorem cb2 {t : TE} {i j : Int} {z : V} {d : PyData} {r : List V → Hp → VK → Prop} (ha : PE X a (tE X.K true env (.int i))) (hb : PE X b (tE X.K true env (.int j)))
    (h : PE X e (tCB r (tCons (tE X.K true env (.int i)) (tCons (tE X.K true env (.int j)) tNil)))) (hr : ∀ H Q, Q z H → r [.int i, .int j] H Q) (hz : ∀ H, Dq X.K H z d) : PE X e (tE X.K m env d) :=
  pmono h fun σ H Q ⟨F0, H0, F, ok, k⟩ => ⟨F0, H0, F, ok, fun v F1 H1 g1 x => ⟨F0, H0, F1, ok.grow g1, fun w F2 H2 g2 y => by
    cases x
    cases y
    exact hr _ _ (k z F2 H2 (g1.trans g2) (hz _))⟩⟩
theorem e_max2 (hm : X.mg "max" = none) (ha : PE X a (tE X.K true env (.int i))) (hb : PE X b (tE X.K true env (.int j))) (hc : X.calm = true := by rfl) (hg : Gl X "max" := by rfl) (hv : bootBuiltins "max" = some (.builtin "max") := by decide +kernel)
    (na : NS X a := by exact fun _ => rfl) (nb : NS X b := by exact fun _ => rfl) : PE X (.Call (.Name "max" p1) [a, b] [] pos) (tE X.K m env (.int (if j > i then j else i))) :=
  cb2 (t := tC .non) ha hb (pe_callB (call_max2 hc) hg hm hv (pa_cons ha (pa_cons hb pa_nil (nb [])) (na [b])) (he := na [b]) (hpl := by rw [nb []]; rfl)) (fun H Q q => ⟨i, j, rfl, q⟩) fun _ => .int _
theorem e_min2 (hm : X.mg "min" = none) (ha : PE X a (tE X.K true env (.int i))) (hb : PE X b (tE X.K true env (.int j))) (hc : X.calm = true := by rfl) (hg : Gl X "min" := by rfl) (hv : bootBuiltins "min" = some (.builtin "min") := by decide +kernel)
    (na : NS X a := by exact fun _ => rfl) (nb : NS X b := by exact fun _ => rfl) : PE X (.Call (.Name "min" p1) [a, b] [] pos) (tE X.K m env (.int (if j < i then j else i))) :=
  cb2 (t := tC .non) ha hb (pe_callB (call_min2 hc) hg hm hv (pa_cons ha (pa_cons hb pa_nil (nb [])) (na [b])) (he := na [b]) (hpl := by rw [nb []]; rfl)) (fun H Q q => ⟨i, j, rfl, q⟩) fun _ => .int _
theorem e_max2n (hm : X.mg "max" = none) {i j : Nat} (ha : PE X a (tE X.K true env (.int i))) (hb : PE X b (tE X.K true env (.int j))) (hc : X.calm = true := by rfl) (hg : Gl X "max" := by rfl) (hv : bootBuiltins "max" = some (.builtin "max") := by decide +kernel)
    (na : NS X a := by exact fun _ => rfl) (nb : NS X b := by exact fun _ => rfl) : PE X (.Call (.Name "max" p1) [a, b] [] pos) (tE X.K m env (.int ((max i j : Nat) : Int))) := by
  have h := e_max2 (m := m) (p1 := p1) (pos := pos) hm ha hb hc hg hv na nb
  have e : (if (j : Int) > (i : Int) then (j : Int) else (i : Int)) = ((max i j : Nat) : Int) := by split <;> omega
  rwa [e] at h
theorem e_min2n (hm : X.mg "min" = none) {i j : Nat} (ha : PE X a (tE X.K true env (.int i))) (hb : PE X b (tE X.K true env (.int j))) (hc : X.calm = true := by rfl) (hg : Gl X "min" := by rfl) (hv : bootBuiltins "min" = some (.builtin "min") := by decide +kernel)
    (na : NS X a := by exact fun _ => rfl) (nb : NS X b := by exact fun _ => rfl) : PE X (.Call (.Name "min" p1) [a, b] [] pos) (tE X.K m env (.int ((min i j : Nat) : Int))) := by
  have h := e_min2 (m := m) (p1 := p1) (pos := pos) hm ha hb hc hg hv na nb
  have e : (if (j : Int) < (i : Int) then (j : Int) else (i : Int)) = ((min i j : Nat) : Int) := by split <;> omega
  rwa [e] at h
/-- x of an equal int -/
theorem e_int_eq (h : PE X e (tE K m env (.int i))) (q : i = j) : PE X e (tE K m env (.int j)) := q ▸ h
theorem e_eq (h : PE X e (tE K m env d1)) (q : d1 = d2) : PE X e (tE K m env d2) := q ▸ h
theorem o_eq (h : PE X e (tO K env ds1)) (q : ds1 = ds2) : PE X e (tO K env ds2) := q ▸ h
theorem l_eq (h : PE X e (tL K env ds1)) (q : ds1 = ds2) : PE X e (tL K env ds2) := q ▸ h
theorem t_eq {k l : Bool} (h : PT X e (tT K env k)) (q : k = l) : PT X e (tT K env l) := q ▸ h
theorem e_all {bs : List Bool} (hm : X.mg "all" = none) (h : PE X e (tL X.K env (bs.map .bool))) (hg : Gl X "all" := by rfl) (hv : bootBuiltins "all" = some (.builtin "all") := by decide +kernel) (hc : CallR X (.builtin "all") (rAll X.K)) (ns : NS X e := by exact fun _ => rfl) : PE X (.Call (.Name "all" p1) [e] [] pos) (tE X.K m env (.bool (bs.all id))) :=
  pmono (pe_callB hc hg hm hv (pa_cons h pa_nil (ns [])) (he := ns [])) fun σ H Q ⟨F0, H0, F, ok, k⟩ => ⟨F0, H0, F, ok, fun p vs F1 H1 g1 x y => ⟨p, bs, rfl, by rw [DqAll.bls y] at x; exact sqOf x, k _ F1 H1 g1 (.bl _)⟩⟩
theorem e_any {bs : List Bool} (hm : X.mg "any" = none) (h : PE X e (tL X.K env (bs.map .bool))) (hg : Gl X "any" := by rfl) (hv : bootBuiltins "any" = some (.builtin "any") := by decide +kernel) (hc : CallR X (.builtin "any") (rAny X.K)) (ns : NS X e := by exact fun _ => rfl) : PE X (.Call (.Name "any" p1) [e] [] pos) (tE X.K m env (.bool (bs.any id))) :=
  pmono (pe_callB hc hg hm hv (pa_cons h pa_nil (ns [])) (he := ns [])) fun σ H Q ⟨F0, H0, F, ok, k⟩ => ⟨F0, H0, F, ok, fun p vs F1 H1 g1 x y => ⟨p, bs, rfl, by rw [DqAll.bls y] at x; exact sqOf x, k _ F1 H1 g1 (.bl _)⟩⟩
end

/-! ### what is walked -/
structure Gives (K : KF) (F : Hp) (J : It) (ds : List PyData) : Prop where
  go : ∀ (i : Nat) F' H', i < ds.length → Ex F F' → Ex F' H' → J.go i H'
  stop : ∀ (i : Nat) F' H', ds.length ≤ i → Ex F F' → Ex F' H' → J.stop i H'
  yld : ∀ (i : Nat) (d : PyData) F' H' x H'', ds[i]? = some d → Ex F F' → Ex F' H' → J.yld i H' x H'' → ∃ F'', Grow F' H' F'' H'' ∧ Dq K F'' x d
def tI (K : KF) (env : List Sl) (ds : List PyData) : TI := fun σ H R => ∃ F0 H0 F, Ok K F0 H0 env σ F H ∧ ∀ J F' H', Grow F H F' H' → Gives K F' J ds → R J H'
section
variable {tg iter l : Expr}
theorem pimono {t t' : TI} (h : PI X tg iter t) (k : ∀ σ H R, t' σ H R → t σ H R) : PI X tg iter t' := ⟨fun pins s σ H R I q => h.run pins s σ H R I (k σ H R q)⟩
theorem i_list (h : PE X l (tE X.K true env (.list ds))) : PI X tg l (tI X.K env ds) := pimono (pi_list h) fun σ H R ⟨F0, H0, F, ok, k⟩ => ⟨F0, H0, F, ok, fun v F1 H1 g1 x => by
  cases (show Dq X.K F1 v (.list ds) from x) with
  | @lst a vs _ h1 h2 =>
    refine ⟨a, rfl, ⟨vs, sqOf (g1.fh _ _ h1)⟩, k _ F1 H1 g1 ⟨fun i F' H' hi e1 e2 => ?_, fun i F' H' hi e1 e2 => ⟨vs, sqOf (e2 _ _ (e1 _ _ h1)), by rw [h2.length]; exact hi⟩, fun i d F' H' x H'' hd e1 e2 hy => ?_⟩⟩
    · have hl := h2.length
      exact ⟨vs, vs[i], sqOf (e2 _ _ (e1 _ _ h1)), List.getElem?_eq_getElem (by omega)⟩
    · obtain ⟨rfl, hy⟩ := hy
      have hx := hy vs (sqOf (e2 _ _ (e1 _ _ h1)))
      obtain ⟨d', q1, q2⟩ := h2.getV hx
      rw [hd] at q1; cases q1
      exact ⟨F', Grow.refl e2, q2.up e1⟩⟩
theorem i_tup (h : PE X l (tE X.K true env (.tuple ds))) : PI X tg l (tI X.K env ds) := pimono (pi_tup h) fun σ H R ⟨F0, H0, F, ok, k⟩ => ⟨F0, H0, F, ok, fun v F1 H1 g1 x => by
  cases (show Dq X.K F1 v (.tuple ds) from x) with
  | @tup a vs _ h1 h2 =>
    refine ⟨a, rfl, ⟨vs, ex_t g1.fh h1⟩, k _ F1 H1 g1 ⟨fun i F' H' hi e1 e2 => ?_, fun i F' H' hi e1 e2 => ⟨vs, ex_t (e1.trans e2) h1, by rw [h2.length]; exact hi⟩, fun i d F' H' x H'' hd e1 e2 hy => ?_⟩⟩
    · have hl := h2.length
      exact ⟨vs, vs[i], ex_t (e1.trans e2) h1, List.getElem?_eq_getElem (by omega)⟩
    · obtain ⟨rfl, hy⟩ := hy
      have hx := hy vs (ex_t (e1.trans e2) h1)
      obtain ⟨d', q1, q2⟩ := h2.getV hx
      rw [hd] at q1; cases q1
      exact ⟨F', Grow.refl e2, q2.up e1⟩⟩
def rangeD (lo : Int) (n : Nat) : List PyData := (List.range n).map fun (i : Nat) => .int (lo + (i : Int))
theorem gives_rng {F : Hp} (lo : Int) (n : Nat) : Gives K F (Itr lo n) (rangeD lo n) :=
  ⟨fun i F' H' hi _ _ => by
    have : i < n := by simpa [rangeD] using hi
    exact this, fun i F' H' hi _ _ => by
    have : n ≤ i := by simpa [rangeD] using hi
    exact this, fun i d F' H' x H'' hd e1 e2 hy => by
    obtain ⟨rfl, rfl⟩ := hy
    have hi : i < n := by simpa [rangeD] using (List.getElem?_eq_some_iff.mp hd).1
    have : d = .int (lo + (i : Int)) := by
      unfold rangeD at hd
      rw [List.getElem?_map, List.getElem?_range hi] at hd
      exact (Option.some.inj hd).symm
    subst this
    exact ⟨F', Grow.refl e2, .int _⟩⟩
theorem i_rng1 {j : Int} (hm : X.mg "range" = none) (ha : PE X a (tE X.K true env (.int j))) (hj : -(2 ^ 62) ≤ j ∧ j < 2 ^ 62) (hg : Gl X "range" := by rfl) (na : NS X a := by exact fun _ => rfl) : PI X tg (.Call (.Name "range" p1) [a] [] pos) (tI X.K env (rangeD 0 j.toNat)) :=
  pimono (pi_range1 hg hm (pa_cons ha pa_nil (na [])) (na [])) fun σ H R ⟨F0, H0, F, ok, k⟩ => ⟨F0, H0, F, ok, fun v F1 H1 g1 x => by
    cases x
    exact ⟨j, rfl, hj.1, hj.2, k _ F1 H1 g1 (gives_rng 0 _)⟩⟩
theorem i_rng2 {i j : Int} (hm : X.mg "range" = none) (ha : PE X a (tE X.K true env (.int i))) (hb : PE X b (tE X.K true env (.int j))) (hj : -(2 ^ 62) ≤ i ∧ i < 2 ^ 62 ∧ -(2 ^ 62) ≤ j ∧ j < 2 ^ 62) (hg : Gl X "range" := by rfl) (na : NS X a := by exact fun _ => rfl) (nb : NS X b := by exact fun _ => rfl) :
    PI X tg (.Call (.Name "range" p1) [a, b] [] pos) (tI X.K env (rangeD i (j - i).toNat)) :=
  pimono (pi_range2 hg hm (pa_cons ha (pa_cons hb pa_nil (nb [])) (na [b])) (by rw [na [b], nb []]; rfl) (nb [])) fun σ H R ⟨F0, H0, F, ok, k⟩ => ⟨F0, H0, F, ok, fun v F1 H1 g1 x => ⟨F0, H0, F1, ok.grow g1, fun w F2 H2 g2 y => by
    cases x
    cases y
    exact ⟨i, j, rfl, hj, k _ F2 H2 (g1.trans g2) (gives_rng i _)⟩⟩⟩
end

/-! ### targets -/
/-- g stores the datum d into slots (ix names them), that makes of env f env -/
def Asg (K : KF) (g : TG) (d : PyData) (f : List Sl → List Sl) (ix : List Nat) : Prop := ∀ (F0 H0 F H : Hp) (env : List Sl) (σ : St) (v : V) (Q : St → Hp → Prop), Ok K F0 H0 env σ F H → Dq K F v d →
  (∀ σ', Ok K F0 H0 (f env) σ' F H → (∀ vs : List Nat, (∀ i ∈ ix, i ∈ vs) → wipe σ' vs = wipe σ vs) → Q σ' H) → g v σ H Q
theorem wipe_set {i : Nat} {x : Option V} : ∀ {vs : List Nat} {σ : St}, i ∈ vs → wipe (σ.set i x) vs = wipe σ vs
  | [], _, h => by cases h
  | v :: vs, σ, h => by
    unfold wipe
    by_cases hv : i = v
    · subst hv
      by_cases hi : i ∈ vs
      · rw [wipe_set hi]
      · have : ∀ (vs : List Nat) (σ : St), i ∉ vs → wipe (σ.set i x) vs = (wipe σ vs).set i x := by
          intro vs
          induction vs with
          | nil => intro σ _; rfl
          | cons w ws ih =>
            intro σ hn
            simp only [List.mem_cons, not_or] at hn
            unfold wipe
            rw [ih σ hn.2, List.set_comm _ _ hn.1]
        rw [this vs σ hi, List.set_set]
    · rw [wipe_set (by simpa [hv] using h)]
theorem asg_name {i : Nat} : Asg K (gName i) d (fun env => env.set i (.dat d)) [i] := fun F0 H0 F H env σ v Q ok hd k => k _ (ok.setDat hd) fun vs h => wipe_set (h i (by simp))
theorem asg_nameA {i : Nat} (d : PyData) : Asg K (gName i) d (fun env => env.set i (.dat d)) [i] := asg_name
def AsgS (K : KF) (g : TGs) (ds : List PyData) (f : List Sl → List Sl) (ix : List Nat) : Prop := ∀ (F0 H0 F H : Hp) (env : List Sl) (σ : St) (vs : List V) (Q : St → Hp → Prop), Ok K F0 H0 env σ F H → DqAll K F vs ds →
  (∀ σ', Ok K F0 H0 (f env) σ' F H → (∀ vs : List Nat, (∀ i ∈ ix, i ∈ vs) → wipe σ' vs = wipe σ vs) → Q σ' H) → g vs σ H Q
theorem asg_nil : AsgS K gNil [] (fun env => env) [] := fun F0 H0 F H env σ vs Q ok hd k => by
  cases hd
  exact ⟨rfl, k σ ok fun _ _ => rfl⟩
theorem asg_cons {g : TG} {gs : TGs} {f fs : List Sl → List Sl} {ix jx : List Nat} (h1 : Asg K g d f ix) (h2 : AsgS K gs ds fs jx) : AsgS K (gCons g gs) (d :: ds) (fun env => fs (f env)) (ix ++ jx) := fun F0 H0 F H env σ vs Q ok hd k => by
  cases hd with
  | cons x1 x2 =>
    refine ⟨_, _, rfl, h1 F0 H0 F H env σ _ _ ok x1 fun σ1 ok1 w1 => h2 F0 H0 F H _ σ1 _ _ ok1 x2 fun σ2 ok2 w2 => k σ2 ok2 fun vs h => ?_⟩
    rw [w2 vs fun i hi => h i (List.mem_append_right _ hi), w1 vs fun i hi => h i (List.mem_append_left _ hi)]
theorem asg_tup {gs : TGs} {f : List Sl → List Sl} {ix : List Nat} {n : Nat} (h : AsgS K gs ds f ix) (hn : ds.length = n) : Asg K (gTup K n gs) (.tuple ds) f ix := fun F0 H0 F H env σ v Q ok hd k => by
  cases hd with
  | tup h1 h2 => exact ⟨_, _, rfl, ex_t ok.g.fh h1, by rw [h2.length, hn], h F0 H0 F H env σ _ _ ok h2 k⟩

/-! ### list comprehensions -/
def wipeE (env : List Sl) : List Nat → List Sl
  | [] => env
  | v :: vs => (wipeE env vs).set v .no
theorem Ok.wiped {F0 H0 F H : Hp} {σ : St} (ok : Ok K F0 H0 env σ F H) : ∀ vs : List Nat, Ok K F0 H0 (wipeE env vs) (wipe σ vs) F H
  | [] => ok
  | v :: vs => (Ok.wiped ok vs).setNo
abbrev Blk (X : Cx) (scope : Scope) (P : Cx → Prop) : Prop := ∀ (s : Shared) (H : Hp) (C : Addr) (cl : List (Str × Addr)) (fp : List Addr), P (X.blk s H scope (compEnvC scope cl C X.env) fp)
theorem pex {α : Type} {t : α → TE} (h : ∀ z, PE X e (t z)) : PE X e (fun σ H Q => ∃ z, t z σ H Q) := ⟨fun pins s σ H Q I ⟨z, q⟩ => (h z).run pins s σ H Q I q⟩
theorem ptex {α : Type} {t : α → TT} {ifs : List Expr} (h : ∀ z, PTs X ifs (t z)) : PTs X ifs (fun σ H Q => ∃ z, t z σ H Q) := ⟨fun pins s σ H Q I ⟨z, q⟩ => (h z).run pins s σ H Q I q⟩
theorem set_wipe {σ : St} {v : Nat} : ∀ {ws : List Nat}, v ∈ ws → (wipe σ ws).set v none = wipe σ ws
  | [], h => by cases h
  | w :: ws, h => by
    show ((wipe σ ws).set w none).set v none = (wipe σ ws).set w none
    by_cases e : v = w
    · subst e; rw [List.set_set]
    · rw [List.set_comm _ _ (fun q => e q.symm), set_wipe (by simpa [e] using h)]
theorem wipe_wipe {σ : St} : ∀ (vs ws : List Nat), (∀ v ∈ vs, v ∈ ws) → wipe (wipe σ ws) vs = wipe σ ws
  | [], _, _ => rfl
  | v :: vs, ws, h => by
    show (wipe (wipe σ ws) vs).set v none = wipe σ ws
    rw [wipe_wipe vs ws fun u hu => h u (by simp [hu]), set_wipe (h v (by simp))]
theorem lc_read {α : Type} {zs : List α} {enc : α → PyData} {g : TG} {ix : List Nat} {f : α → List Sl → List Sl} {tb : α → Bool} {y : α → PyData} {own : List Nat} (hl : zs.length ≤ 1000000)
    (hf : ∀ z ∈ zs, Asg K g (enc z) (f z) ix) (hix : ∀ i ∈ ix, i ∈ own) {σ : St} {H : Hp} {Q : VK} (h : tO K env ((zs.filter tb).map y) σ H Q) :
    tLc (tI K env (zs.map enc)) g (fun σ H Q => ∃ z, (z ∈ zs) ∧ tT K (f z (wipeE env own)) (tb z) σ H Q) (fun σ H Q => ∃ z, (z ∈ zs ∧ tb z = true) ∧ tE K true (f z (wipeE env own)) (y z) σ H Q) own σ H Q := by
  obtain ⟨F0, H0, F, ok, k⟩ := h
  refine ⟨F0, H0, F, ok, fun J F1 H1 g1 gv D hD => ?_⟩
  have ok1 := ok.grow g1
  refine ⟨fun i n H' => i ≤ zs.length ∧ n = zs.length - i ∧ ∃ F' acc, Grow F1 H1 F' H' ∧ F' D = none ∧ H' D = some (.lst acc) ∧ DqAll K F' acc (((zs.take i).filter tb).map y),
    ⟨zs.length, Nat.zero_le _, rfl, F1, [], Grow.own g1.fh hD, g1.fh.back hD, upd_same, .nil⟩, ?_⟩
  rintro i n H' ⟨hi, rfl, F', acc, g2, fd, hd, ha⟩
  by_cases hlt : i < zs.length
  · have hz : zs[i]? = some zs[i] := List.getElem?_eq_getElem hlt
    have hm : zs[i] ∈ zs := List.getElem_mem hlt
    refine .inr ⟨gv.go i F' H' (by rw [List.length_map]; exact hlt) g2.ff g2.fh, fun H2 => ∃ F2 acc, Grow F1 H1 F2 H2 ∧ F2 D = none ∧ H2 D = some (.lst acc) ∧ DqAll K F2 acc (((zs.take (i + 1)).filter tb).map y), fun H2 ⟨F2, acc2, q1, q2, q3, q4⟩ => ⟨zs.length - (i + 1), by omega, hlt, rfl, F2, acc2, q1, q2, q3, q4⟩, fun x H3 hy => ?_⟩
    obtain ⟨F3, g3, x3⟩ := gv.yld i (enc zs[i]) F' H' x H3 (by rw [List.getElem?_map, hz]; rfl) g2.ff g2.fh hy
    have ok3 : Ok K F0 H0 (wipeE env own) (wipe σ own) F3 H3 := (ok1.grow (g2.trans g3)).wiped own
    have hD3 : F3 D = none := g3.old D fd (by rw [hd]; simp)
    have hH3 : H3 D = some (.lst acc) := g3.hh _ _ hd
    refine hf zs[i] hm F0 H0 F3 H3 _ _ x _ ok3 x3 fun σ4 ok4 w4 => ⟨?_, zs[i], hm, F0, H0, F3, ok4, fun F5 H5 g5 => ?_⟩
    · rw [w4 own hix]
      exact wipe_wipe own own fun _ h => h
    · have hD5 : F5 D = none := g5.old D hD3 (by rw [hH3]; simp)
      have hH5 : H5 D = some (.lst acc) := g5.hh _ _ hH3
      have ht : (zs.take (i + 1)) = zs.take i ++ [zs[i]] := by rw [List.take_add_one, hz]; rfl
      cases hb : tb zs[i] with
      | true =>
        show ∃ z, _
        refine ⟨zs[i], ⟨hm, hb⟩, F0, H0, F5, ok4.grow g5, fun v F6 H6 g6 x6 => ⟨acc, g6.hh _ _ hH5, ?_, F6, acc ++ [v], ?_, g6.old D hD5 (by rw [hH5]; simp), upd_same, ?_⟩⟩
        · have h1 := ha.length
          have h2 : (((zs.take i).filter tb).map y).length ≤ zs.length := by
            rw [List.length_map]
            exact Nat.le_trans (List.length_filter_le _ _) (by rw [List.length_take]; omega)
          have h3 : sizeLine = 16777216 := sizeLine_eq
          omega
        · exact ((((g2.trans g3).trans g5).trans g6)).put hD (g6.old D hD5 (by rw [hH5]; simp))
        · rw [ht, List.filter_append, List.map_append, List.filter_cons, if_pos hb]
          exact (ha.up ((g3.ff.trans g5.ff).trans g6.ff)).append (.cons x6 .nil)
      | false =>
        refine ⟨F5, acc, (g2.trans g3).trans g5, hD5, hH5, ?_⟩
        rw [ht, List.filter_append, List.map_append, List.filter_cons, if_neg (by rw [hb]; decide)]
        show DqAll K F5 acc (_ ++ [])
        rw [List.append_nil]
        exact ha.up (g3.ff.trans g5.ff)
  · have e : i = zs.length := by omega
    subst e
    refine .inl ⟨gv.stop _ F' H' (by rw [List.length_map]; exact Nat.le_refl _) g2.ff g2.fh, k D acc F' H' (g1.trans g2) (g1.hh.back hD) fd hd ?_⟩
    rw [List.take_length] at ha
    exact ha
end
end D3
namespace D3
open PySem PySem.Spec L2

/-! ### comprehensions -/
section
variable {X : Cx} {K : KF} {e a b c : Expr} {es : List Expr} {m m1 m2 m3 : Bool} {env : List Sl} {d d1 d2 : PyData} {ds ds1 ds2 : List PyData} {pos p1 p2 p3 p4 : Pos}
theorem ts_nil : PTs X [] (tT K env true) := ⟨fun pins s σ H Q I ⟨F0, H0, F, ok, q⟩ => pts_nil.run pins s σ H Q I (q F H (Grow.refl ok.g.fh))⟩
theorem ts_one {k : Bool} (h : PT X c (tT K env k)) : PTs X [c] (tT K env k) := pts_one h
theorem o_lc {α : Type} {zs : List α} {enc : α → PyData} {g : TG} {ix : List Nat} {f : α → List Sl → List Sl} {tb : α → Bool} {y : α → PyData} {own : List (Str × Nat)} {tg iter elt : Expr} {ifs : List Expr} {scope : Scope}
    (hN : X.N.Nodup) (hi : PI X tg iter (tI X.K env (zs.map enc))) (hl : zs.length ≤ 1000000) (okb : blkC X.N X.env.scope scope own = true) (hg : Blk X scope fun X' => PG X' tg g)
    (hf : ∀ z ∈ zs, Asg X.K g (enc z) (f z) ix) (hix : ∀ i ∈ ix, i ∈ own.map (·.2))
    (ht : ∀ z ∈ zs, Blk X scope fun X' => PTs X' ifs (tT X.K (f z (wipeE env (own.map (·.2)))) (tb z)))
    (he : ∀ z ∈ zs, tb z = true → Blk X scope fun X' => PE X' elt (tE X.K true (f z (wipeE env (own.map (·.2)))) (y z)))
    (hc : X.calm = true := by rfl) (hs : ∀ x, foldedSetIterable iter X.env x = pure x := by intro _; rfl) : PE X (.ListComp elt [⟨tg, iter, ifs, 0⟩] scope pos) (tO X.K env ((zs.filter tb).map y)) :=
  pmono (pe_lc (te := fun σ H Q => ∃ z, (z ∈ zs ∧ tb z = true) ∧ tE X.K true (f z (wipeE env (own.map (·.2)))) (y z) σ H Q) (tt := fun σ H Q => ∃ z, (z ∈ zs) ∧ tT X.K (f z (wipeE env (own.map (·.2)))) (tb z) σ H Q) hc hN hi (blkOk_by okb) hg
    (fun s H C cl fp => ⟨fun pins s1 σ H Q I ⟨z, hz, q⟩ => (ht z hz s _ C cl fp).run pins s1 σ H Q I q⟩) (fun s H C cl fp => ⟨fun pins s1 σ H Q I ⟨z, hz, q⟩ => (he z hz.1 hz.2 s _ C cl fp).run pins s1 σ H Q I q⟩) hs) fun σ H Q h => lc_read hl hf hix h
theorem map_filter_true {α β : Type} (zs : List α) (y : α → β) : (zs.filter fun _ => true).map y = zs.map y := by
  rw [List.filter_eq_self.mpr fun _ _ => rfl]
/-- no test -/
theorem o_lcA {α : Type} {zs : List α} {enc : α → PyData} {g : TG} {ix : List Nat} {f : α → List Sl → List Sl} {y : α → PyData} {own : List (Str × Nat)} {tg iter elt : Expr} {scope : Scope}
    (hN : X.N.Nodup) (hi : PI X tg iter (tI X.K env (zs.map enc))) (hl : zs.length ≤ 1000000) (okb : blkC X.N X.env.scope scope own = true) (hg : Blk X scope fun X' => PG X' tg g)
    (hf : ∀ z ∈ zs, Asg X.K g (enc z) (f z) ix) (hix : ∀ i ∈ ix, i ∈ own.map (·.2))
    (he : ∀ z ∈ zs, Blk X scope fun X' => PE X' elt (tE X.K true (f z (wipeE env (own.map (·.2)))) (y z)))
    (hc : X.calm = true := by rfl) (hs : ∀ x, foldedSetIterable iter X.env x = pure x := by intro _; rfl) : PE X (.ListComp elt [⟨tg, iter, [], 0⟩] scope pos) (tO X.K env (zs.map y)) := by
  have h := o_lc (pos := pos) (tb := fun _ => true) hN hi hl okb hg hf hix (fun z _ s H C cl fp => ts_nil) (fun z hz _ => he z hz) hc hs
  rwa [map_filter_true] at h

/-! ### statements -/
inductive RS where
  | dat (d : PyData)
  | own (ds : List PyData)
structure DE where
  nx : List Sl → Prop
  rt : RS → Prop
  bk : List Sl → Prop := fun _ => False
  ct : List Sl → Prop := fun _ => False
def RtOk (K : KF) (F0 H0 : Hp) (r : RS) (Q : VK) : Prop := match r with
  | .dat d => ∀ v F' H', Grow F0 H0 F' H' → Dq K F' v d → Q v H'
  | .own ds => ∀ p vs F' H', Grow F0 H0 F' H' → H0 p = none → F' p = none → H' p = some (.lst vs) → DqAll K F' vs ds → Q (.ref p) H'
def tS (K : KF) (env : List Sl) (E : DE) : TS := fun D σ H => ∃ F0 H0 F, Ok K F0 H0 env σ F H ∧ (∀ env' σ' F' H', E.nx env' → Ok K F0 H0 env' σ' F' H' → D.nx σ' H') ∧
  (∀ env' σ' F' H', E.bk env' → Ok K F0 H0 env' σ' F' H' → D.bk σ' H') ∧ (∀ env' σ' F' H', E.ct env' → Ok K F0 H0 env' σ' F' H' → D.ct σ' H') ∧ ∀ r, E.rt r → RtOk K F0 H0 r D.rt
abbrev DE.to (E : DE) (M : List Sl → Prop) : DE := ⟨M, E.rt, E.bk, E.ct⟩
variable {E : DE} {st : Stmt} {rest : List Stmt} {sts : List Stmt}
theorem s_nil (h : E.nx env) : PSs X [] (tS K env E) := pssmono pss_nil fun D σ H ⟨F0, H0, F, ok, n, _⟩ => n env σ F H h ok
theorem s_cons {M : List Sl → Prop} (h1 : PS X st (tS K env (E.to M))) (h2 : ∀ env', M env' → PSs X rest (tS K env' E)) : PSs X (st :: rest) (tS K env E) :=
  pssmono (pss_cons (u := fun D σ H => ∃ env', M env' ∧ tS K env' E D σ H) h1 ⟨fun pins s σ H D I ⟨e', hm, q⟩ => (h2 e' hm).run pins s σ H D I q⟩) fun D σ H ⟨F0, H0, F, ok, n, bk, ct, rt⟩ =>
    ⟨F0, H0, F, ok, fun e' σ' F' H' hm ok' => ⟨e', hm, F0, H0, F', ok', n, bk, ct, rt⟩, bk, ct, rt⟩
/-- one way on -/
theorem s_then {env' : List Sl} (h1 : PS X st (tS K env (E.to (· = env')))) (h2 : PSs X rest (tS K env' E)) : PSs X (st :: rest) (tS K env E) := s_cons h1 fun e q => q ▸ h2
/-- no way on -/
theorem s_last (h1 : PS X st (tS K env E)) : PSs X [st] (tS K env E) := pss_one h1
theorem s_stop (h1 : PS X st (tS K env (E.to fun _ => False))) : PSs X (st :: rest) (tS K env E) := s_cons h1 fun e q => q.elim
theorem s_pass (h : E.nx env) : PS X (.Pass pos) (tS K env E) := psmono ps_pass fun D σ H ⟨F0, H0, F, ok, n, _⟩ => n env σ F H h ok
theorem s_brk (h : E.bk env) : PS X (.Break pos) (tS K env E) := psmono ps_break fun D σ H ⟨F0, H0, F, ok, _, n, _⟩ => n env σ F H h ok
theorem s_cont (h : E.ct env) : PS X (.Continue pos) (tS K env E) := psmono ps_continue fun D σ H ⟨F0, H0, F, ok, _, _, n, _⟩ => n env σ F H h ok
theorem s_set {x : Str} (i : Nat) (hN : X.N.Nodup) (hi : X.N[i]? = some x) (he : PE X e (tE K true env d)) (h : E.nx (env.set i (.dat d))) (hx : Loc X.env.scope x := by first | exact .inl rfl | exact .inr rfl)
    (hs : swapsWith e (some (.Name x p1)) pos.line X.env = pure false := by rfl) (hf : X.fn x = true ∨ X.env.scope.names.lookup x = some .local := by first | exact .inl rfl | exact .inr rfl) : PS X (.Assign [.Name x p1] e pos) (tS K env E) :=
  psmono (ps_set hN hi hx he hs hf) fun D σ H ⟨F0, H0, F, ok, n, _⟩ => ⟨F0, H0, F, ok, fun v F1 H1 g1 x1 => n _ _ F1 H1 h ((ok.grow g1).setDat x1)⟩
theorem own_new {F0 H0 F H F1 H1 : Hp} {σ : St} {p : Addr} (ok : Ok K F0 H0 env σ F H) (hp : H p = none) : ∀ (j : Nat) (es : List PyData), env[j]? = some (.own es) → σ[j]? ≠ some (some (.ref p)) := fun j es h z => by
  obtain ⟨q, vs, h1, _, _, h2, _⟩ := ok.own j es h
  rw [z] at h1; cases h1
  rw [hp] at h2; cases h2
theorem s_setO {x : Str} (i : Nat) (hN : X.N.Nodup) (hi : X.N[i]? = some x) (he : PE X e (tO K env ds)) (h : E.nx (env.set i (.own ds))) (hx : Loc X.env.scope x := by first | exact .inl rfl | exact .inr rfl)
    (hs : swapsWith e (some (.Name x p1)) pos.line X.env = pure false := by rfl) (hf : X.fn x = true ∨ X.env.scope.names.lookup x = some .local := by first | exact .inl rfl | exact .inr rfl) : PS X (.Assign [.Name x p1] e pos) (tS K env E) :=
  psmono (ps_set hN hi hx he hs hf) fun D σ H ⟨F0, H0, F, ok, n, _⟩ => ⟨F0, H0, F, ok, fun p vs F1 H1 g1 h1 h2 h3 h4 => n _ _ F1 H1 h ((ok.grow g1).setOwn h2 (ok.g.hh.back h1) h3 h4 (own_new (F1 := F1) (H1 := H1) ok h1))⟩
/-- y = [.. for ..] -/
theorem s_setLc {α : Type} {zs : List α} {enc : α → PyData} {g : TG} {ix : List Nat} {f : α → List Sl → List Sl} {tb : α → Bool} {y : α → PyData} {own : List (Str × Nat)} {tg iter elt : Expr} {ifs : List Expr} {scope : Scope} {x : Str} {py spos : Pos} (i : Nat)
    (hN : X.N.Nodup) (hxi : X.N[i]? = some x) (hi : PI X tg iter (tI X.K env (zs.map enc))) (hl : zs.length ≤ 1000000) (okb : blkC X.N X.env.scope scope own = true) (hg : Blk X scope fun X' => PG X' tg g)
    (hf : ∀ z ∈ zs, Asg X.K g (enc z) (f z) ix) (hix : ∀ i ∈ ix, i ∈ own.map (·.2))
    (ht : ∀ z ∈ zs, Blk X scope fun X' => PTs X' ifs (tT X.K (f z (wipeE env (own.map (·.2)))) (tb z)))
    (he : ∀ z ∈ zs, tb z = true → Blk X scope fun X' => PE X' elt (tE X.K true (f z (wipeE env (own.map (·.2)))) (y z)))
    (h : E.nx (env.set i (.own ((zs.filter tb).map y)))) (hsw : swapsWith (.ListComp elt [⟨tg, iter, ifs, 0⟩] scope pos) (some (.Name x py)) spos.line X.env = pure true) (hyl : X.env.scope.names.lookup x = some .local := by rfl)
    (hc : X.calm = true := by rfl) (hs : ∀ x, foldedSetIterable iter X.env x = pure x := by intro _; rfl) : PS X (.Assign [.Name x py] (.ListComp elt [⟨tg, iter, ifs, 0⟩] scope pos) spos) (tS X.K env E) :=
  psmono (ps_setLc (te := fun σ H Q => ∃ z, (z ∈ zs ∧ tb z = true) ∧ tE X.K true (f z (wipeE env (own.map (·.2)))) (y z) σ H Q) (tt := fun σ H Q => ∃ z, (z ∈ zs) ∧ tT X.K (f z (wipeE env (own.map (·.2)))) (tb z) σ H Q) hc hN hxi hyl hsw hi (blkOk_by okb) hg
    (fun s H C cl fp => ⟨fun pins s1 σ H Q I ⟨z, hz, q⟩ => (ht z hz s _ C cl fp).run pins s1 σ H Q I q⟩) (fun s H C cl fp => ⟨fun pins s1 σ H Q I ⟨z, hz, q⟩ => (he z hz.1 hz.2 s _ C cl fp).run pins s1 σ H Q I q⟩) hs) fun D σ H ⟨F0, H0, F, ok, n, _⟩ =>
      lc_read hl hf hix ⟨F0, H0, F, ok, fun p vs F1 H1 g1 h1 h2 h3 h4 => n _ _ F1 H1 h ((ok.grow g1).setOwn h2 (ok.g.hh.back h1) h3 h4 (own_new (F1 := F1) (H1 := H1) ok h1))⟩
theorem s_setLcA {α : Type} {zs : List α} {enc : α → PyData} {g : TG} {ix : List Nat} {f : α → List Sl → List Sl} {y : α → PyData} {own : List (Str × Nat)} {tg iter elt : Expr} {scope : Scope} {x : Str} {py spos : Pos} (i : Nat)
    (hN : X.N.Nodup) (hxi : X.N[i]? = some x) (hi : PI X tg iter (tI X.K env (zs.map enc))) (hl : zs.length ≤ 1000000) (okb : blkC X.N X.env.scope scope own = true) (hg : Blk X scope fun X' => PG X' tg g)
    (hf : ∀ z ∈ zs, Asg X.K g (enc z) (f z) ix) (hix : ∀ i ∈ ix, i ∈ own.map (·.2))
    (he : ∀ z ∈ zs, Blk X scope fun X' => PE X' elt (tE X.K true (f z (wipeE env (own.map (·.2)))) (y z)))
    (h : E.nx (env.set i (.own (zs.map y)))) (hsw : swapsWith (.ListComp elt [⟨tg, iter, [], 0⟩] scope pos) (some (.Name x py)) spos.line X.env = pure true) (hyl : X.env.scope.names.lookup x = some .local := by rfl)
    (hc : X.calm = true := by rfl) (hs : ∀ x, foldedSetIterable iter X.env x = pure x := by intro _; rfl) : PS X (.Assign [.Name x py] (.ListComp elt [⟨tg, iter, [], 0⟩] scope pos) spos) (tS X.K env E) :=
  s_setLc (tb := fun _ => true) i hN hxi hi hl okb hg hf hix (fun z _ s H C cl fp => ts_nil) (fun z hz _ => he z hz) (by rw [map_filter_true]; exact h) hsw hyl hc hs
theorem s_if {k : Bool} {t1 t2 : List Stmt} (hc : PT X c (tT K env k)) (h1 : k = true → PSs X t1 (tS K env E)) (h2 : k = false → PSs X t2 (tS K env E)) : PS X (.If c t1 t2 pos) (tS K env E) := by
  have never : ∀ {sts : List Stmt}, PSs X sts (fun _ _ _ => False) := fun {sts} => ⟨fun _ _ _ _ _ _ h => h.elim⟩
  cases k with
  | true => exact psmono (ps_if hc (h1 rfl) never) fun D σ H ⟨F0, H0, F, ok, r⟩ => ⟨F0, H0, F, ok, fun F1 H1 g1 => ⟨F0, H0, F1, ok.grow g1, r⟩⟩
  | false => exact psmono (ps_if hc never (h2 rfl)) fun D σ H ⟨F0, H0, F, ok, r⟩ => ⟨F0, H0, F, ok, fun F1 H1 g1 => ⟨F0, H0, F1, ok.grow g1, r⟩⟩
theorem s_ret (he : PE X e (tE K true env d)) (h : E.rt (.dat d)) : PS X (.Return (some e) pos) (tS K env E) :=
  psmono (ps_ret he) fun D σ H ⟨F0, H0, F, ok, n, b, c, r⟩ => ⟨F0, H0, F, ok, fun v F1 H1 g1 x1 => r _ h v F1 H1 (ok.g.trans g1) x1⟩
theorem s_retO (he : PE X e (tO K env ds)) (h : E.rt (.own ds)) : PS X (.Return (some e) pos) (tS K env E) :=
  psmono (ps_ret he) fun D σ H ⟨F0, H0, F, ok, n, b, c, r⟩ => ⟨F0, H0, F, ok, fun p vs F1 H1 g1 h1 h2 h3 h4 => r _ h p vs F1 H1 (ok.g.trans g1) (ok.g.hh.back h1) h2 h3 h4⟩
theorem s_retN (h : E.rt (.dat .none)) : PS X (.Return none pos) (tS K env E) :=
  psmono ps_retN fun D σ H ⟨F0, H0, F, ok, n, b, c, r⟩ => r _ h .non F H ok.g .non
theorem s_retV {x : Str} (i : Nat) (hi : X.N[i]? = some x) (hv : Vis X.env.scope x) (ho : env[i]? = some (.own ds)) (h : E.rt (.own ds)) (hd : (x == ("__debug__" : Str)) = false := by decide) (hcd : (x == ("__classdict__" : Str)) = false := by decide) : PS X (.Return (some (.Name x p1)) pos) (tS K env E) :=
  psmono (ps_ret (pe_var hi hv hd hcd)) fun D σ H ⟨F0, H0, F, ok, n, b, c, r⟩ => by
    obtain ⟨p, vs, h1, h2, h3, h4, h5⟩ := ok.own i ds ho
    exact ⟨.ref p, h1, r _ h p vs F H ok.g h3 h2 h4 h5⟩
theorem s_app {x : Str} (i : Nat) (hi : X.N[i]? = some x) (hv : Vis X.env.scope x) (ho : env[i]? = some (.own ds)) (he : PE X e (tE X.K true env d)) (hz : ds.length < sizeLine) (h : E.nx (env.set i (.own (ds ++ [d]))))
    (hd : (x == ("__debug__" : Str)) = false := by decide) (hcd : (x == ("__classdict__" : Str)) = false := by decide) (na : NS X e := by exact fun _ => rfl)
    (hbase : attributeBase (.Name x p1) "append" X.env (eval (.Name x p1) X.env) = eval (.Name x p1) X.env := by rfl) (hline : (p2.endLine == p3.line) = true := by rfl)
    (hs : swapsWith (.Call (.Attribute (.Name x p1) "append" p2) [e] [] p3) none pos.line X.env = pure false := by rfl) : PS X (.Expr (.Call (.Attribute (.Name x p1) "append" p2) [e] [] p3) pos) (tS X.K env E) :=
  psmono (ps_expr (pe_bm (hline := hline) PySem.F.plainAttrs_list PySem.F.slot_list_append PySem.F.type_list_append mt_append (pe_var hi hv hd hcd) (pa_cons he pa_nil (na [])) (hs := na []) (hfew := by rw [na []]; rfl) (hbase := hbase)) hs) fun D σ H ⟨F0, H0, F, ok, n, _⟩ => by
    obtain ⟨p, vs, h1, h2, h3, h4, h5⟩ := ok.own i ds ho
    refine ⟨.ref p, h1, .inl ⟨rfl, _, .inl (.inl h4)⟩, F0, H0, F, ok, fun v F1 H1 g1 x1 => ?_⟩
    have h6 := g1.hh _ _ h4
    refine ⟨p, vs, v, rfl, rfl, h6, by rw [h5.length]; exact hz, n _ _ F1 _ h ((ok.grow g1).put ho h1 ((h5.up g1.ff).append (.cons x1 .nil)))⟩
theorem s_setIx {x : Str} {k : Int} {j : Nat} (i : Nat) (hi : X.N[i]? = some x) (hv : Vis X.env.scope x) (ho : env[i]? = some (.own ds)) (he : PE X e (tE X.K true env d)) (hb : PE X b (tE X.K true env (.int k))) (hj : ixN ds.length k = some j) (h : E.nx (env.set i (.own (ds.set j d))))
    (hd : (x == ("__debug__" : Str)) = false := by decide) (hcd : (x == ("__classdict__" : Str)) = false := by decide) (hg : ∀ {t : TSet}, PSet X t → PG X (.Subscript (.Name x p1) b p2) (gSub (tVar i) (tE X.K true env (.int k)) t))
    (hs : swapsWithSole [.Subscript (.Name x p1) b p2] e pos.line X.env = pure false := by rfl) (hw : swappedStores [.Subscript (.Name x p1) b p2] e X.env = pure none := by rfl) : PS X (.Assign [.Subscript (.Name x p1) b p2] e pos) (tS X.K env E) :=
  psmono (ps_asg he (hg set_list) hs hw) fun D σ H ⟨F0, H0, F, ok, n, _⟩ => ⟨F0, H0, F, ok, fun v F1 H1 g1 x1 => by
    obtain ⟨p, vs, h1, h2, h3, h4, h5⟩ := ok.own i ds ho
    refine ⟨.ref p, h1, F0, H0, F1, ok.grow g1, fun w F2 H2 g2 x2 => ?_⟩
    cases x2
    exact ⟨p, vs, k, j, rfl, rfl, g2.hh _ _ (g1.hh _ _ h4), by rw [h5.length]; exact hj, n _ _ F2 _ h (((ok.grow g1).grow g2).put ho h1 (DqAll.set (x1.up g2.ff) j (h5.up (g1.ff.trans g2.ff))))⟩⟩
theorem s_drop (he : PE X e (tE K true env d)) (h : E.nx env) (hs : swapsWith e none pos.line X.env = pure false := by rfl) : PS X (.Expr e pos) (tS K env E) :=
  psmono (ps_expr he hs) fun D σ H ⟨F0, H0, F, ok, n, _⟩ => ⟨F0, H0, F, ok, fun v F1 H1 g1 x1 => n _ _ F1 H1 h (ok.grow g1)⟩

/-! ### weaker states -/
def LeE : List Sl → List Sl → Prop
  | [], [] => True
  | a :: as, b :: bs => (b = .no ∨ a = b) ∧ LeE as bs
  | _, _ => False
theorem LeE.refl : ∀ env : List Sl, LeE env env
  | [] => trivial
  | _ :: as => ⟨.inr rfl, LeE.refl as⟩
theorem LeE.get : ∀ {as bs : List Sl} {i : Nat} {s : Sl}, LeE as bs → bs[i]? = some s → s ≠ .no → as[i]? = some s
  | [], [], i, s, _, h, _ => by simp at h
  | a :: as, b :: bs, 0, s, h, e, n => by
    simp at e; subst e
    rcases h.1 with h | h
    · exact absurd h n
    · rw [h]; rfl
  | a :: as, b :: bs, i + 1, s, h, e, n => by
    have := LeE.get (i := i) h.2 (by simpa using e) n
    simpa using this
  | [], _ :: _, _, _, h, _, _ => h.elim
  | _ :: _, [], _, _, h, _, _ => h.elim
theorem LeE.len : ∀ {as bs : List Sl}, LeE as bs → as.length = bs.length
  | [], [], _ => rfl
  | a :: as, b :: bs, h => by simp [LeE.len h.2]
  | [], _ :: _, h => h.elim
  | _ :: _, [], h => h.elim
theorem Ok.le {F0 H0 F H : Hp} {σ : St} {env' : List Sl} (ok : Ok K F0 H0 env σ F H) (h : LeE env env') : Ok K F0 H0 env' σ F H :=
  ⟨ok.g, fun i d e => ok.dat i d (h.get e (by intro z; cases z)), fun i d e => ok.own i d (h.get e (by intro z; cases z)), fun i j ds es p e1 e2 => ok.sep i j ds es p (h.get e1 (by intro z; cases z)) (h.get e2 (by intro z; cases z)),
    fun i d e => ok.scr i d (h.get e (by intro z; cases z)), by rw [ok.len, h.len]⟩
theorem s_le {env' : List Sl} (h : LeE env env') (k : PSs X sts (tS K env' E)) : PSs X sts (tS K env E) := pssmono k fun D σ H ⟨F0, H0, F, ok, r⟩ => ⟨F0, H0, F, ok.le h, r⟩
theorem s_le1 {env' : List Sl} (h : LeE env env') (k : PS X st (tS K env' E)) : PS X st (tS K env E) := psmono k fun D σ H ⟨F0, H0, F, ok, r⟩ => ⟨F0, H0, F, ok.le h, r⟩
theorem s_frz {i : Nat} (ho : env[i]? = some (.own ds)) (k : PSs X sts (tS K (env.set i (.dat (.list ds))) E)) : PSs X sts (tS K env E) := pssmono k fun D σ H ⟨F0, H0, F, ok, r⟩ => by
  obtain ⟨F', _, _, ok'⟩ := ok.freeze ho
  exact ⟨F0, H0, F', ok', r⟩
theorem s_frz1 {i : Nat} (ho : env[i]? = some (.own ds)) (k : PS X st (tS K (env.set i (.dat (.list ds))) E)) : PS X st (tS K env E) := psmono k fun D σ H ⟨F0, H0, F, ok, r⟩ => by
  obtain ⟨F', _, _, ok'⟩ := ok.freeze ho
  exact ⟨F0, H0, F', ok', r⟩

/-! ### loops -/
theorem Grow.rebase {F0 H0 F1 H1 F H : Hp} (g1 : Grow F0 H0 F1 H1) (g : Grow F0 H0 F H) (e : Ex F1 F) : Grow F1 H0 F H :=
  ⟨e, g.hh, g.fh, fun a h0 h1 => g.old a (g1.ff.back h0) h1⟩
theorem Grow.unbase {F0 H0 F1 H1 F H : Hp} (g1 : Grow F0 H0 F1 H1) (g : Grow F1 H0 F H) : Grow F0 H0 F H :=
  ⟨g1.ff.trans g.ff, g.hh, g.fh, fun a h0 h1 => g.old a (g1.old a h0 h1) h1⟩
theorem Ok.rebase {F0 H0 F1 H1 F H : Hp} {σ : St} (g1 : Grow F0 H0 F1 H1) (ok : Ok K F0 H0 env σ F H) (e : Ex F1 F) : Ok K F1 H0 env σ F H := ⟨g1.rebase ok.g e, ok.dat, ok.own, ok.sep, ok.scr, ok.len⟩
theorem Ok.unbase {F0 H0 F1 H1 F H : Hp} {σ : St} (g1 : Grow F0 H0 F1 H1) (ok : Ok K F1 H0 env σ F H) : Ok K F0 H0 env σ F H := ⟨g1.unbase ok.g, ok.dat, ok.own, ok.sep, ok.scr, ok.len⟩
theorem RtOk.rebase {F0 H0 F1 H1 : Hp} {r : RS} {Q : VK} (g1 : Grow F0 H0 F1 H1) (h : RtOk K F0 H0 r Q) : RtOk K F1 H0 r Q := by
  cases r with
  | dat d => exact fun v F' H' g x => h v F' H' (g1.unbase g) x
  | own ds => exact fun p vs F' H' g a b c d => h p vs F' H' (g1.unbase g) a b c d
theorem s_for {α : Type} {zs : List α} {enc : α → PyData} {g : TG} {ix : List Nat} {f : α → List Sl → List Sl} {tg iter : Expr} {body : List Stmt} (I : Nat → List Sl → Prop) (hp : PassesOwn (model X.prog X.w) X.A X.env X.xe)
    (hi : PI X tg iter (tI X.K env (zs.map enc))) (hg : PG X tg g) (hf : ∀ z ∈ zs, Asg X.K g (enc z) (f z) ix) (h0 : I 0 env)
    (hb : ∀ (i : Nat) z env', zs[i]? = some z → I i env' → PSs X body (tS X.K (f z env') ⟨I (i + 1), E.rt, E.nx, I (i + 1)⟩)) (hd : ∀ env', I zs.length env' → E.nx env')
    (hc : X.calm = true := by rfl) (hs : ∀ x, foldedSetIterable iter X.env x = pure x := by intro _; rfl) : PS X (.For tg iter body [] pos) (tS X.K env E) :=
  psmono (ps_for (tb := fun D σ H => ∃ (i : Nat) (z : α) (env' : List Sl), (zs[i]? = some z ∧ I i env') ∧ tS X.K (f z env') ⟨I (i + 1), E.rt, E.nx, I (i + 1)⟩ D σ H) hp hc hi hg ⟨fun pins s σ H D J ⟨i, z, e', h, q⟩ => (hb i z e' h.1 h.2).run pins s σ H D J q⟩ hs) fun D σ H ⟨F0, H0, F, ok, n, bk, ct, rt⟩ => by
    refine ⟨F0, H0, F, ok, fun J F1 H1 g1 gv => ⟨fun i m σ' H' => i ≤ zs.length ∧ m = zs.length - i ∧ ∃ env' F', I i env' ∧ Ok X.K F0 H0 env' σ' F' H' ∧ Ex F1 F', ⟨zs.length, Nat.zero_le _, rfl, env, F1, h0, ok.grow g1, Ex.refl _⟩, ?_⟩⟩
    have gb : Grow F0 H0 F1 H1 := ok.g.trans g1
    rintro i m σ' H' ⟨hle, rfl, env', F', hI, ok', ex⟩
    by_cases hlt : i < zs.length
    · have hz : zs[i]? = some zs[i] := List.getElem?_eq_getElem hlt
      refine .inr ⟨gv.go i F' H' (by rw [List.length_map]; exact hlt) ex ok'.g.fh, fun σ2 H2 => ∃ env2 F2, I (i + 1) env2 ∧ Ok X.K F0 H0 env2 σ2 F2 H2 ∧ Ex F1 F2, fun σ2 H2 ⟨env2, F2, q1, q2, q3⟩ => ⟨zs.length - (i + 1), by omega, hlt, rfl, env2, F2, q1, q2, q3⟩, fun x H3 hy => ?_⟩
      obtain ⟨F3, g3, x3⟩ := gv.yld i (enc zs[i]) F' H' x H3 (by rw [List.getElem?_map, hz]; rfl) ex ok'.g.fh hy
      refine hf zs[i] (List.getElem_mem hlt) F0 H0 F3 H3 env' σ' x _ (ok'.grow g3) x3 fun σ4 ok4 _ => ?_
      refine ⟨i, zs[i], env', ⟨hz, hI⟩, F1, H0, F3, ok4.rebase gb (ex.trans g3.ff), fun e2 σ2 F2 H2 h2 ok2 => ⟨e2, F2, h2, ok2.unbase gb, ok2.g.ff⟩, fun e2 σ2 F2 H2 h2 ok2 => n e2 σ2 F2 H2 h2 (ok2.unbase gb), fun e2 σ2 F2 H2 h2 ok2 => ⟨e2, F2, h2, ok2.unbase gb, ok2.g.ff⟩, fun r hr => (rt r hr).rebase gb⟩
    · have e : i = zs.length := by omega
      subst e
      exact .inl ⟨gv.stop _ F' H' (by rw [List.length_map]; exact Nat.le_refl _) ex ok'.g.fh, n env' σ' F' H' (hd env' hI) ok'⟩
/-- the state ahead of each turn, at least -/
theorem s_forE {α : Type} {zs : List α} {enc : α → PyData} {g : TG} {ix : List Nat} {f : α → List Sl → List Sl} {tg iter : Expr} {body : List Stmt} (T : Nat → List Sl) (hp : PassesOwn (model X.prog X.w) X.A X.env X.xe)
    (hi : PI X tg iter (tI X.K env (zs.map enc))) (hg : PG X tg g) (hf : ∀ z ∈ zs, Asg X.K g (enc z) (f z) ix) (hfl : ∀ z e1 e2, LeE e1 e2 → LeE (f z e1) (f z e2)) (h0 : LeE env (T 0))
    (hb : ∀ (i : Nat) z, zs[i]? = some z → PSs X body (tS X.K (f z (T i)) ⟨fun e => LeE e (T (i + 1)), E.rt, E.nx, fun e => LeE e (T (i + 1))⟩)) (hd : ∀ e, LeE e (T zs.length) → E.nx e)
    (hc : X.calm = true := by rfl) (hs : ∀ x, foldedSetIterable iter X.env x = pure x := by intro _; rfl) : PS X (.For tg iter body [] pos) (tS X.K env E) :=
  s_for (fun i e => LeE e (T i)) hp hi hg hf h0 (fun i z env' hz hI => s_le (hfl z _ _ hI) (hb i z hz)) hd hc hs
theorem s_while {body : List Stmt} {k : List Sl → Bool} (I : Nat → List Sl → Prop) (hp : PassesOwn (model X.prog X.w) X.A X.env X.xe) {n : Nat} (h0 : I n env)
    (hc : ∀ i env', I i env' → PT X c (tT X.K env' (k env')))
    (hb : ∀ (i : Nat) env', I i env' → k env' = true → PSs X body (tS X.K env' ⟨fun e => ∃ j, j < i ∧ I j e, E.rt, E.nx, fun e => ∃ j, j < i ∧ I j e⟩)) (hd : ∀ i env', I i env' → k env' = false → E.nx env') : PS X (.While c body [] pos) (tS X.K env E) :=
  psmono (ps_while (tc := fun σ H Q => ∃ (i : Nat) (env' : List Sl), I i env' ∧ tT X.K env' (k env') σ H Q) (tb := fun D σ H => ∃ (i : Nat) (env' : List Sl), (I i env' ∧ k env' = true) ∧ tS X.K env' ⟨fun e => ∃ j, j < i ∧ I j e, E.rt, E.nx, fun e => ∃ j, j < i ∧ I j e⟩ D σ H) hp
    ⟨fun pins s σ H Q J ⟨i, e', h, q⟩ => (hc i e' h).run pins s σ H Q J q⟩ ⟨fun pins s σ H D J ⟨i, e', h, q⟩ => (hb i e' h.1 h.2).run pins s σ H D J q⟩) fun D σ H ⟨F0, H0, F, ok, nx, bk, ct, rt⟩ => by
    refine ⟨fun m σ' H' => ∃ env' F', I m env' ∧ Ok X.K F0 H0 env' σ' F' H', ⟨n, env, F, h0, ok⟩, ?_⟩
    rintro m σ' H' ⟨env', F', hI, ok'⟩
    refine ⟨m, env', hI, F0, H0, F', ok', fun F1 H1 g1 => ?_⟩
    cases hk : k env' with
    | true =>
      show ∃ N : L2.St → Hp → Prop, _
      refine ⟨fun σ2 H2 => ∃ j, j < m ∧ ∃ env2 F2, I j env2 ∧ Ok X.K F0 H0 env2 σ2 F2 H2, fun σ2 H2 ⟨j, hj, q⟩ => ⟨j, hj, q⟩, m, env', ⟨hI, hk⟩, F0, H0, F1, ok'.grow g1, fun e2 σ2 F2 H2 ⟨j, hj, hI2⟩ ok2 => ⟨j, hj, e2, F2, hI2, ok2⟩, nx, fun e2 σ2 F2 H2 ⟨j, hj, hI2⟩ ok2 => ⟨j, hj, e2, F2, hI2, ok2⟩, rt⟩
    | false => exact nx env' σ' F1 H1 (hd m env' hI hk) (ok'.grow g1)
end

/-! ### defs -/
def spD (K : KF) (n : Nat) (R : List PyData → RS → Prop) : Sp := fun vs H Q _ => ∃ F ds r, Ex F H ∧ DqAll K F vs ds ∧ ds.length = n ∧ R ds r ∧ RtOk K F H r Q
def spScr (K : KF) (R : List Int → RS → Prop) : Sp := fun vs H Q _ => ∃ F a ns r, vs = [V.ref a] ∧ Ex F H ∧ SqL K F a (ns.map V.int) ∧ R ns r ∧ RtOk K F H r Q
def env0 (n : Nat) (ds : List PyData) : List Sl := ds.map .dat ++ List.replicate (n - ds.length) .no
theorem ok_start {K : KF} {F H : Hp} {vs : List V} {ds : List PyData} (N : List Str) (e : Ex F H) (h : DqAll K F vs ds) : Ok K F H (env0 N.length ds) (L2.start N vs) F H := by
  have hl := h.length
  refine ⟨⟨Ex.refl _, Ex.refl _, e, fun a h0 _ => h0⟩, fun i d he => ?_, fun i d he => ?_, fun i j d d' p he he' => ?_, fun i d he => ?_, ?_⟩
  · unfold env0 at he
    by_cases hi : i < ds.length
    · rw [List.getElem?_append_left (by rw [List.length_map]; exact hi), List.getElem?_map] at he
      cases hd : ds[i]? with
      | none => rw [hd] at he; cases he
      | some d' =>
        rw [hd] at he
        cases he
        obtain ⟨v, h1, h2⟩ := h.get hd
        refine ⟨v, ?_, h2⟩
        unfold L2.start
        rw [List.getElem?_append_left (by rw [List.length_map]; omega), List.getElem?_map, h1]
        rfl
    · rw [List.getElem?_append_right (by rw [List.length_map]; omega), List.getElem?_replicate] at he
      split at he <;> cases he
  all_goals try (unfold env0 at he; by_cases hi : i < ds.length)
  · rw [List.getElem?_append_left (by rw [List.length_map]; exact hi), List.getElem?_map] at he
    cases hd : ds[i]? with
    | none => rw [hd] at he; cases he
    | some d' => rw [hd] at he; cases he
  · rw [List.getElem?_append_right (by rw [List.length_map]; omega), List.getElem?_replicate] at he
    split at he <;> cases he
  · rw [List.getElem?_append_left (by rw [List.length_map]; exact hi), List.getElem?_map] at he
    cases hd : ds[i]? with
    | none => rw [hd] at he; cases he
    | some d' => rw [hd] at he; cases he
  · rw [List.getElem?_append_right (by rw [List.length_map]; omega), List.getElem?_replicate] at he
    split at he <;> cases he
  · rw [List.getElem?_append_left (by rw [List.length_map]; exact hi), List.getElem?_map] at he
    cases hd : ds[i]? with
    | none => rw [hd] at he; cases he
    | some d' => rw [hd] at he; cases he
  · rw [List.getElem?_append_right (by rw [List.length_map]; omega), List.getElem?_replicate] at he
    split at he <;> cases he
  · unfold L2.start env0
    rw [List.length_append, List.length_append, List.length_map, List.length_map, List.length_replicate, List.length_replicate, hl]
theorem ok_scr {K : KF} {F H : Hp} {a : Addr} {ns : List Int} (N : List Str) (e : Ex F H) (h : SqL K F a (ns.map V.int)) : Ok K F H (.scr ns :: List.replicate (N.length - 1) .no) (L2.start N [.ref a]) F H := by
  refine ⟨⟨Ex.refl _, Ex.refl _, e, fun a h0 _ => h0⟩, fun i d he => ?_, fun i d he => ?_, fun i j d d' p he he' => ?_, fun i d he => ?_, ?_⟩
  · cases i with
    | zero => cases he
    | succ i =>
      rw [List.getElem?_cons_succ, List.getElem?_replicate] at he
      split at he <;> cases he
  · cases i with
    | zero => cases he
    | succ i =>
      rw [List.getElem?_cons_succ, List.getElem?_replicate] at he
      split at he <;> cases he
  · cases i with
    | zero => cases he
    | succ i =>
      rw [List.getElem?_cons_succ, List.getElem?_replicate] at he
      split at he <;> cases he
  · cases i with
    | zero => cases he; exact ⟨a, rfl, h⟩
    | succ i =>
      rw [List.getElem?_cons_succ, List.getElem?_replicate] at he
      split at he <;> cases he
  · unfold L2.start
    simp
section
variable {P : Program} {w : World} {K : KF} {mg : Str → Option Value} {base : Heap} {x qual : Str} {st : Stmt} {f : Addr} {fd : FuncData} {N ps : List Str} {k : Nat} {R : List PyData → RS → Prop}
abbrev Fn (K : KF) (x qual : Str) (st : Stmt) (f : Addr) (fd : FuncData) : Prop := FunD K x qual (defArgs st) (defBody st) (defScope st) [] [] f fd
abbrev cx0 (P : Program) (w : World) (K : KF) (mg : Str → Option Value) (base : Heap) (N : List Str) (qual : Str) (st : Stmt) (f : Addr) (cdv : Value) (A : Around) (outer : List Env) (s : Shared) (H : Hp) (E : XK) : Cx := (cxOf CX0 P w K mg base N qual (defScope st) f cdv A outer s H E).nox
/-- a def keeps its promise -/
theorem def_ok (F : Fn K x qual st f fd) (S : FnScope N ps (defScope st))
    (hb : ∀ (cdv : Value) (A : Around) (outer : List Env) (s : Shared) (H : Hp) (E : XK) (ds : List PyData) (r : RS), Room k (A.deeper (PyProof.Rows.envOfC qual (defScope st) s.heap.objs.size f cdv)) → ds.length = ps.length → R ds r →
      PSs (cx0 P w K mg base N qual st f cdv A outer s H E) (defBody st) (tS K (env0 N.length ds) ⟨fun _ => r = .dat .none, (· = r), fun _ => False, fun _ => False⟩)) : FnOk P w K mg base CX0 (k + 1) f fd ps (spD K ps.length R) := by
  refine FunD.ok F S (fun vs H Q E ⟨F, ds, r, e, h, hl, _⟩ => by rw [h.length, hl]) (fun cdv A outer s H vs Q E hr ⟨F, ds, r, e, h, hl, hR, hQ⟩ => ?_)
  refine ⟨_, PSs.nox (hb cdv A outer s H E ds r hr hl hR), F, H, F, ok_start N e h, fun env' σ' F' H' hr' ok' => ?_, fun _ _ _ _ z => z.elim, fun _ _ _ _ z => z.elim, fun r' hr' => ?_⟩
  · subst hr'
    exact hQ .non F' H' ok'.g .non
  · subst hr'
    exact hQ
theorem def_scr {R : List Int → RS → Prop} (F : Fn K x qual st f fd) (S : FnScope N ps (defScope st)) (hps : ps.length = 1)
    (hb : ∀ (cdv : Value) (A : Around) (outer : List Env) (s : Shared) (H : Hp) (E : XK) (ns : List Int) (r : RS), Room k (A.deeper (PyProof.Rows.envOfC qual (defScope st) s.heap.objs.size f cdv)) → R ns r →
      PSs (cx0 P w K mg base N qual st f cdv A outer s H E) (defBody st) (tS K (.scr ns :: List.replicate (N.length - 1) .no) ⟨fun _ => r = .dat .none, (· = r), fun _ => False, fun _ => False⟩)) : FnOk P w K mg base CX0 (k + 1) f fd ps (spScr K R) := by
  refine FunD.ok F S (fun vs H Q E ⟨F, a, ns, r, e, _⟩ => by rw [e, hps]; rfl) (fun cdv A outer s H vs Q E hr ⟨F, a, ns, r, ev, e, h, hR, hQ⟩ => ?_)
  subst ev
  refine ⟨_, PSs.nox (hb cdv A outer s H E ns r hr hR), F, H, F, ok_scr N e h, fun env' σ' F' H' hr' ok' => ?_, fun _ _ _ _ z => z.elim, fun _ _ _ _ z => z.elim, fun r' hr' => ?_⟩
  · subst hr'
    exact hQ .non F' H' ok'.g .non
  · subst hr'
    exact hQ
end
/-- a def that stands at its name, and its promise -/
def Def (P : Program) (w : World) (K : KF) (mg : Str → Option Value) (base : Heap) (k : Nat) (x : Str) (sp : Sp) : Prop := ∃ f fd ps, FnOk P w K mg base CX0 k f fd ps sp ∧ mg x = some (.ref f) ∧ PySem.W.keepIn K (.ref f) = true ∧ Binds K fd ps []
theorem Def.up {P : Program} {w : World} {K : KF} {mg : Str → Option Value} {base : Heap} {j k : Nat} {x : Str} {sp : Sp} (h : Def P w K mg base j x sp) (l : j ≤ k) : Def P w K mg base k x sp := by
  obtain ⟨f, fd, ps, a, b⟩ := h
  exact ⟨f, fd, ps, a.mono l, b⟩
/-- where a def of the text stands -/
structure At (K : KF) (mg : Str → Option Value) (x : Str) (st : Stmt) (ps : List Str) : Prop where
  ex : ∃ f fd, Fn K x x st f fd ∧ mg x = some (.ref f) ∧ Binds K fd ps []
theorem At.def {P : Program} {w : World} {K : KF} {mg : Str → Option Value} {base : Heap} {k : Nat} {x : Str} {st : Stmt} {ps : List Str} {sp : Sp} (a : At K mg x st ps) (h : ∀ f fd, Fn K x x st f fd → FnOk P w K mg base CX0 k f fd ps sp) : Def P w K mg base k x sp := by
  obtain ⟨f, fd, F, hm, hb⟩ := a.ex
  exact ⟨f, fd, ps, h f fd F, hm, F.kp, hb⟩
section
variable {X : Cx} {e : Expr} {es : List Expr} {m : Bool} {env : List Sl} {d : PyData} {ds rs : List PyData} {pos p : Pos} {k n : Nat} {x : Str} {R : List PyData → RS → Prop}
theorem e_call (D : Def X.prog X.w X.K X.mg X.base k x (spD X.K n R)) (hr : Room k X.A) (ha : PA X (e :: es) (tA X.K true env ds)) (hn : ds.length = n) (hR : R ds (.dat d)) (hg : Gl X x := by rfl) (hdb : (x == ("__debug__" : Str)) = false := by decide)
    (he : starEach (e :: es) X.env = (false, eval e X.env) :: starEach es X.env := by rfl) (hpl : (backTo pos (starEach es X.env)).any (·.1) = false := by rfl) : PE X (.Call (.Name x p) (e :: es) [] pos) (tE X.K m env d) := by
  obtain ⟨f, fd, ps, Fo, hm, hk, hb⟩ := D
  exact pmono (pe_call (E := E0) Fo hr hg hm hk hb .nil pass0 ha hdb he hpl) fun σ H Q ⟨F0, H0, F, ok, q⟩ => ⟨F0, H0, F, ok, fun vs F1 H1 g1 x1 => ⟨F1, ds, .dat d, g1.fh, by rw [List.append_nil]; exact x1, hn, hR, fun v F2 H2 g2 x2 => q v F2 H2 (g1.trans g2) (seldn g2.fh x2)⟩⟩
theorem o_call (D : Def X.prog X.w X.K X.mg X.base k x (spD X.K n R)) (hr : Room k X.A) (ha : PA X (e :: es) (tA X.K true env ds)) (hn : ds.length = n) (hR : R ds (.own rs)) (hg : Gl X x := by rfl) (hdb : (x == ("__debug__" : Str)) = false := by decide)
    (he : starEach (e :: es) X.env = (false, eval e X.env) :: starEach es X.env := by rfl) (hpl : (backTo pos (starEach es X.env)).any (·.1) = false := by rfl) : PE X (.Call (.Name x p) (e :: es) [] pos) (tO X.K env rs) := by
  obtain ⟨f, fd, ps, Fo, hm, hk, hb⟩ := D
  exact pmono (pe_call (E := E0) Fo hr hg hm hk hb .nil pass0 ha hdb he hpl) fun σ H Q ⟨F0, H0, F, ok, q⟩ => ⟨F0, H0, F, ok, fun vs F1 H1 g1 x1 => ⟨F1, ds, .own rs, g1.fh, by rw [List.append_nil]; exact x1, hn, hR, fun p vs2 F2 H2 g2 h1 h2 h3 h4 => q p vs2 F2 H2 (g1.trans g2) (g1.hh.back h1) h2 h3 h4⟩⟩
/-- arguments that are read alone: the answer needs no heap, or is a new list of such -/
theorem e_callH (D : Def X.prog X.w X.K X.mg X.base k x (spD X.K n R)) (hr : Room k X.A) (ha : PA X (e :: es) (tA X.K false env ds)) (hn : ds.length = n) (hR : R ds (.dat d)) (hs : scalD d = true) (hg : Gl X x := by rfl) (hdb : (x == ("__debug__" : Str)) = false := by decide)
    (he : starEach (e :: es) X.env = (false, eval e X.env) :: starEach es X.env := by rfl) (hpl : (backTo pos (starEach es X.env)).any (·.1) = false := by rfl) : PE X (.Call (.Name x p) (e :: es) [] pos) (tE X.K m env d) := by
  obtain ⟨f, fd, ps, Fo, hm, hk, hb⟩ := D
  exact pmono (pe_call (E := E0) Fo hr hg hm hk hb .nil pass0 ha hdb he hpl) fun σ H Q ⟨F0, H0, F, ok, q⟩ => ⟨F0, H0, F, ok, fun vs F1 H1 g1 x1 => ⟨H1, ds, .dat d, Ex.refl _, by rw [List.append_nil]; exact x1, hn, hR, fun v F2 H2 g2 x2 => q v F1 H2 (g1.trans (Grow.junk g1.fh g2.hh)) (x2.scal hs)⟩⟩
theorem o_callH (D : Def X.prog X.w X.K X.mg X.base k x (spD X.K n R)) (hr : Room k X.A) (ha : PA X (e :: es) (tA X.K false env ds)) (hn : ds.length = n) (hR : R ds (.own rs)) (hs : rs.all scalD = true) (hg : Gl X x := by rfl) (hdb : (x == ("__debug__" : Str)) = false := by decide)
    (he : starEach (e :: es) X.env = (false, eval e X.env) :: starEach es X.env := by rfl) (hpl : (backTo pos (starEach es X.env)).any (·.1) = false := by rfl) : PE X (.Call (.Name x p) (e :: es) [] pos) (tO X.K env rs) := by
  obtain ⟨f, fd, ps, Fo, hm, hk, hb⟩ := D
  exact pmono (pe_call (E := E0) Fo hr hg hm hk hb .nil pass0 ha hdb he hpl) fun σ H Q ⟨F0, H0, F, ok, q⟩ => ⟨F0, H0, F, ok, fun vs F1 H1 g1 x1 => ⟨H1, ds, .own rs, Ex.refl _, by rw [List.append_nil]; exact x1, hn, hR, fun p vs2 F2 H2 g2 h1 h2 h3 h4 =>
    q p vs2 F1 H2 (g1.trans (Grow.junk g1.fh g2.hh)) (g1.hh.back h1) (g1.fh.back h1) h3 (h4.scal hs)⟩⟩
/-- f(script) -/
theorem o_callScr {R : List Int → RS → Prop} {y : Str} {ns : List Int} (i : Nat) (D : Def X.prog X.w X.K X.mg X.base k x (spScr X.K R)) (hr : Room k X.A) (hN : X.N[i]? = some y) (hv : Vis X.env.scope y) (ho : env[i]? = some (.scr ns)) (hR : R ns (.own rs)) (hg : Gl X x := by rfl) (hdb : (x == ("__debug__" : Str)) = false := by decide)
    (hd : (y == ("__debug__" : Str)) = false := by decide) (hcd : (y == ("__classdict__" : Str)) = false := by decide) : PE X (.Call (.Name x p) [.Name y pos] [] pos) (tO X.K env rs) := by
  obtain ⟨f, fd, ps, Fo, hm, hk, hb⟩ := D
  exact pmono (pe_call (E := E0) Fo hr hg hm hk hb .nil pass0 (pa_cons (pe_var hN hv hd hcd) pa_nil) hdb) fun σ H Q ⟨F0, H0, F, ok, q⟩ => by
    obtain ⟨a, h1, h2⟩ := ok.scr i ns ho
    exact ⟨.ref a, h1, F, a, ns, .own rs, rfl, ok.g.fh, h2, hR, fun p vs2 F2 H2 g2 h1 h2 h3 h4 => q p vs2 F2 H2 g2 h1 h2 h3 h4⟩
end
/-! ### the law -/
def spLaw (K : KF) : Sp := spScr K fun ns r => ns.length ≤ 63 ∧ r = .dat (.bool true)
theorem law_of {K : KF} {H : Hp} {a : Addr} {ns : List Int} (hl : ns.length ≤ 63) (h : SqL K H a (ns.map V.int)) : spLaw K [.ref a] H (fun v _ => v = .bl true) fun _ _ _ => False :=
  ⟨H, a, ns, .dat (.bool true), rfl, Ex.refl _, h, ⟨hl, rfl⟩, fun v F' H' g x => by cases x; rfl⟩
end D3
namespace D3
open PySem PySem.Spec L2

/-! ### in short -/
/-- the built-ins stand -/
structure Bt (mg : Str → Option Value) : Prop where
  len : mg "len" = none
  range : mg "range" = none
  list : mg "list" = none
  int : mg "int" = none
  abs : mg "abs" = none
  max : mg "max" = none
  min : mg "min" = none
  all : mg "all" = none
  any : mg "any" = none
  isinstance : mg "isinstance" = none
  bool : mg "bool" = none
  repr : mg "repr" = none
  sum : mg "sum" = none
  sorted : mg "sorted" = none
  set : mg "set" = none
  str : mg "str" = none
  tuple : mg "tuple" = none
  enumerate : mg "enumerate" = none
  zip : mg "zip" = none
  reversed : mg "reversed" = none
section
variable {X : Cx} {K : KF} {e a b c : Expr} {es : List Expr} {m m1 m2 m3 : Bool} {env : List Sl} {d d1 d2 : PyData} {ds ds1 ds2 : List PyData} {pos p p1 p2 p3 p4 : Pos} {x : Str} {i j : Int} {E : DE} {st : Stmt} {rest : List Stmt}
abbrev dI (xs : List Int) : List PyData := xs.map .int
theorem dv (i : Nat) (he : env[i]? = some (.dat d)) (hN : X.N[i]? = some x := by rfl) (hv : Vis X.env.scope x := by first | exact .inl rfl | exact .inr (.inl rfl) | exact .inr (.inr rfl))
    (hd : (x == ("__debug__" : Str)) = false := by decide) (hcd : (x == ("__classdict__" : Str)) = false := by decide) : PE X (.Name x pos) (tE K m env d) := pe_dat i hN hv he hd hcd
theorem ov (i : Nat) (he : env[i]? = some (.own ds)) (hN : X.N[i]? = some x := by rfl) (hv : Vis X.env.scope x := by first | exact .inl rfl | exact .inr (.inl rfl) | exact .inr (.inr rfl))
    (hd : (x == ("__debug__" : Str)) = false := by decide) (hcd : (x == ("__classdict__" : Str)) = false := by decide) : PE X (.Name x pos) (tL K env ds) := pl_own i hN hv he hd hcd

/-! ### typed items -/
theorem atI_map {α : Type} {enc : α → PyData} {zs : List α} {z : α} (h : atI zs i = some z) : atI (zs.map enc) i = some (enc z) := by
  unfold atI at h ⊢
  rw [List.length_map]
  cases hx : ixN zs.length i with
  | none => rw [hx] at h; cases h
  | some q =>
    rw [hx] at h
    show (zs.map enc)[q]? = some (enc z)
    rw [List.getElem?_map, show zs[q]? = some z from h]; rfl
theorem atI_pos {α : Type} {zs : List α} {d : α} (h0 : 0 ≤ i) (h1 : i < zs.length) : atI zs i = some (zs.getD i.toNat d) := by
  obtain ⟨k, rfl⟩ := Int.eq_ofNat_of_zero_le h0
  have hk : k < zs.length := by omega
  have : zs[k]? = some zs[k] := List.getElem?_eq_getElem hk
  rw [show ((k : Int)).toNat = k from rfl, List.getD_eq_getElem?_getD, this]
  exact atI_nat this
theorem atI_neg1 {α : Type} {zs : List α} {d : α} (h1 : zs ≠ []) : atI zs (-1) = some (zs.getLastD d) := by
  have hs : zs = zs.dropLast ++ [zs.getLast h1] := (List.dropLast_concat_getLast h1).symm
  have hl : zs.getLastD d = zs.getLast h1 := by
    cases zs with
    | nil => exact absurd rfl h1
    | cons y ys => rfl
  rw [hl]
  conv => lhs; rw [hs]
  exact atI_last _ _
theorem e_ixI {xs : List Int} (h : PE X a (tL X.K env (xs.map .int))) (hb : PE X b (tE X.K true env (.int i))) (hi : 0 ≤ i ∧ i < xs.length) (hs : PlainIx b := by exact fun _ _ => rfl) : PE X (.Subscript a b pos) (tE X.K m env (.int (xs.getD i.toNat 0))) :=
  e_ix h hb (atI_map (enc := .int) (atI_pos hi.1 hi.2)) hs
theorem e_ixG {α : Type} {enc : α → PyData} {zs : List α} (z0 : α) (h : PE X a (tL X.K env (zs.map enc))) (hb : PE X b (tE X.K true env (.int i))) (hi : 0 ≤ i ∧ i < zs.length) (hs : PlainIx b := by exact fun _ _ => rfl) : PE X (.Subscript a b pos) (tE X.K m env (enc (zs.getD i.toNat z0))) :=
  e_ix h hb (atI_map (atI_pos hi.1 hi.2)) hs
theorem e_ixZ {xs : List Int} (h : PE X a (tL X.K env (xs.map .int))) (hb : PE X b (tE X.K true env (.int (-1)))) (hi : xs ≠ []) (hs : PlainIx b := by exact fun _ _ => rfl) : PE X (.Subscript a b pos) (tE X.K m env (.int (xs.getLastD 0))) :=
  e_ix h hb (atI_map (enc := .int) (atI_neg1 hi)) hs
theorem e_mul (ha : PE X a (tE K true env (.int i))) (hb : PE X b (tE K true env (.int j))) (hc : CMulW i j) : PE X (.BinOp a .Mult b pos) (tE K m env (.int (i * j))) := e_I (g := fun i j => i * j) op_mulW hc ha hb
theorem e_mulS (ha : PE X a (tE K true env (.int i))) (hb : PE X b (tE K true env (.int j))) (hc : CMul i j) : PE X (.BinOp a .Mult b pos) (tE K m env (.int (i * j))) := e_I (g := fun i j => i * j) op_mul hc ha hb
theorem e_fdivW (ha : PE X a (tE K true env (.int i))) (hb : PE X b (tE K true env (.int j))) (hc : CDivW i j) : PE X (.BinOp a .FloorDiv b pos) (tE K m env (.int (i / j))) := e_I (g := fun i j => i / j) op_fdivW hc ha hb
/-- [0] * n -/
theorem repD_one {α : Type} (z : α) (k : Int) : repD [z] k = List.replicate k.toNat z := by
  unfold repD
  induction k.toNat with
  | zero => rfl
  | succ n ih => rw [List.replicate_succ, List.flatten_cons, ih, List.replicate_succ]; rfl
theorem map_repD {α β : Type} (f : α → β) (zs : List α) (k : Int) : repD (zs.map f) k = (repD zs k).map f := by
  unfold repD
  induction k.toNat with
  | zero => rfl
  | succ n ih => rw [List.replicate_succ, List.flatten_cons, ih, List.replicate_succ, List.flatten_cons, List.map_append]
theorem map_cutD {α β : Type} (f : α → β) (zs : List α) (lo hi : Option Int) : cutD (zs.map f) lo hi = (cutD zs lo hi).map f := by
  unfold cutD
  rw [List.length_map, List.map_take, List.map_drop]
theorem cut_to {α : Type} {zs : List α} {k : Int} (h : 0 ≤ k) : cutD zs none (some k) = zs.take k.toNat := by
  obtain ⟨n, rfl⟩ := Int.eq_ofNat_of_zero_le h
  unfold cutD
  rw [HT.sIx_none, HT.sIx_nat, List.drop_zero, Nat.sub_zero, show ((n : Int)).toNat = n from rfl]
  rw [Nat.min_def]; split
  · rfl
  · rw [List.take_length, List.take_of_length_le (by omega)]
theorem cut_from {α : Type} {zs : List α} {k : Int} (h : 0 ≤ k) : cutD zs (some k) none = zs.drop k.toNat := by
  obtain ⟨n, rfl⟩ := Int.eq_ofNat_of_zero_le h
  unfold cutD
  rw [HT.sIx_none, HT.sIx_nat, show ((n : Int)).toNat = n from rfl, List.take_of_length_le (by rw [List.length_drop]; omega)]
  rw [Nat.min_def]; split
  · rfl
  · rw [List.drop_length, List.drop_eq_nil_of_le (by omega)]
theorem cut_m1 {α : Type} {zs : List α} : cutD zs none (some (-1)) = zs.dropLast := by
  have h : HT.sIx zs.length zs.length (some (-1)) = zs.length - 1 := by
    show (if (-1 : Int) < 0 then ((-1 : Int) + (zs.length : Int)).toNat else min (-1 : Int).toNat zs.length) = zs.length - 1
    rw [if_pos (by decide)]
    omega
  unfold cutD
  rw [HT.sIx_none, List.drop_zero, Nat.sub_zero, List.dropLast_eq_take, h]
/-- zs[:n] of data -/
theorem o_to {α : Type} {enc : α → PyData} {zs : List α} (h : PE X e (tL X.K env (zs.map enc))) (hb : PE X b (tE X.K true env (.int i))) (hi : 0 ≤ i) : PE X (.Subscript e (.Slice none (some b) none p2) pos) (tO X.K env ((zs.take i.toNat).map enc)) :=
  o_eq (o_sl h o_no (o_so hb)) (by rw [map_cutD, cut_to hi])
theorem o_from {α : Type} {enc : α → PyData} {zs : List α} (h : PE X e (tL X.K env (zs.map enc))) (hb : PE X b (tE X.K true env (.int i))) (hi : 0 ≤ i) : PE X (.Subscript e (.Slice (some b) none none p2) pos) (tO X.K env ((zs.drop i.toNat).map enc)) :=
  o_eq (o_sl h (o_so hb) o_no) (by rw [map_cutD, cut_from hi])
theorem o_catG {α : Type} {enc : α → PyData} {xs ys : List α} (ha : PE X a (tL X.K env (xs.map enc))) (hb : PE X b (tL X.K env (ys.map enc))) (hz : xs.length + ys.length ≤ sizeLine) : PE X (.BinOp a .Add b pos) (tO X.K env ((xs ++ ys).map enc)) :=
  o_eq (o_cat ha hb (by rw [List.length_map, List.length_map]; exact hz)) (by rw [List.map_append])
theorem o_repG {α : Type} {enc : α → PyData} {xs : List α} (ha : PE X a (tL X.K env (xs.map enc))) (hb : PE X b (tE X.K true env (.int i))) (h1 : -(2 ^ 63) ≤ i ∧ i < 2 ^ 63) (hz : xs.length * i.toNat ≤ sizeLine) : PE X (.BinOp a .Mult b pos) (tO X.K env ((repD xs i).map enc)) :=
  o_eq (o_rep ha hb h1 (by rw [List.length_map]; exact hz)) (map_repD enc xs i)
/-- [n] * k -/
theorem o_rep1 {n : Int} (ha : PE X a (tE X.K true env (.int n))) (hb : PE X b (tE X.K true env (.int i))) (h1 : i < 2 ^ 63) (h2 : -(2 ^ 63) ≤ i) (hz : i.toNat ≤ sizeLine) (na : NS X a := by exact fun _ => rfl) : PE X (.BinOp (.List [a] p1) .Mult b pos) (tO X.K env ((List.replicate i.toNat n).map .int)) :=
  o_eq (o_rep (l_o (o_list (a_cons ha a_nil (na [])) (by show 1 ≤ sizeLine; rw [sizeLine_eq]; omega))) hb ⟨h2, h1⟩ (by simpa using hz)) (by rw [repD_one, List.map_replicate])
theorem o_nil : PE X (.List [] pos) (tO X.K env []) := o_list a_nil (Nat.zero_le _)
theorem o_listI {ns : List Int} (h : PA X es (tA X.K true env (ns.map .int))) (hl : ns.length ≤ 1000) : PE X (.List es pos) (tO X.K env (ns.map .int)) := o_list h (by rw [List.length_map, sizeLine_eq]; omega)
theorem a_consI {n : Int} {ns : List Int} (ha : PE X a (tE K m env (.int n))) (hs : PA X es (tA K m env (ns.map .int))) (hst : starEach (a :: es) X.env = (false, eval a X.env) :: starEach es X.env := by rfl) : PA X (a :: es) (tA K m env ((n :: ns).map .int)) := a_cons ha hs hst
theorem a_nilI : PA X [] (tA K m env (([] : List Int).map .int)) := a_nil
theorem a_consG {α : Type} {enc : α → PyData} {z : α} {zs : List α} (ha : PE X a (tE K m env (enc z))) (hs : PA X es (tA K m env (zs.map enc))) (hst : starEach (a :: es) X.env = (false, eval a X.env) :: starEach es X.env := by rfl) : PA X (a :: es) (tA K m env ((z :: zs).map enc)) := a_cons ha hs hst
theorem a_nilG {α : Type} {enc : α → PyData} : PA X [] (tA K m env (([] : List α).map enc)) := a_nil
/-- xs[::-1] -/
theorem o_rev {k : Nat} (h : PE X e (tL X.K env ds)) : PE X (.Subscript e (.Slice none none (some (.UnaryOp .USub (.Constant (.int 1) k p1) p2)) p3) pos) (tO X.K env ds.reverse) :=
  pmono (pe_revL h) fun σ H Q ⟨F0, H0, F, ok, q⟩ => ⟨F0, H0, F, ok, fun p vs F1 H1 g1 x y => ⟨p, vs, rfl, sqOf x, fun r hr => q r _ F1 _ (g1.trans (Grow.own g1.fh hr)) (g1.hh.back hr) (g1.fh.back hr) upd_same (by
    have rev : ∀ {vs : List V} {ds : List PyData}, DqAll X.K F1 vs ds → DqAll X.K F1 vs.reverse ds.reverse := by
      intro vs ds
      induction ds generalizing vs with
      | nil => intro h; cases h; exact .nil
      | cons d ds ih =>
        intro h
        cases h with
        | cons h1 h2 =>
          rw [List.reverse_cons, List.reverse_cons]
          exact (ih h2).append (.cons h1 .nil)
    exact rev y)⟩⟩
theorem o_revG {α : Type} {enc : α → PyData} {zs : List α} {k : Nat} (h : PE X e (tL X.K env (zs.map enc))) : PE X (.Subscript e (.Slice none none (some (.UnaryOp .USub (.Constant (.int 1) k p1) p2)) p3) pos) (tO X.K env (zs.reverse.map enc)) :=
  o_eq (o_rev h) (by rw [List.map_reverse])
theorem e_isB {k l : Bool} (ha : PE X a (tE K true env (.bool k))) (hb : PE X b (tE K true env (.bool l))) : PE X (.Compare a [.Is] [b] pos) (tE K m env (.bool (decide (k = l)))) :=
  e_cmp op_isBl ha hb (nomark _) (fun x y H Q hx hy q => by cases hx; cases hy; exact ⟨k, l, rfl, rfl, q⟩) fun _ => .bl _
theorem e_isNone (ha : PE X a (tE K true env d)) {k : Nat} : PE X (.Compare a [.Is] [.Constant .none k p1] pos) (tE K m env (.bool (match d with | .none => true | _ => false))) :=
  e_cmp op_isN ha (e_non (m := true) (env := env)) (nomark _) (fun x y H Q hx hy q => by
    cases hy
    refine ⟨rfl, ?_⟩
    cases hx <;> exact q) fun _ => .bl _
theorem e_notNone (ha : PE X a (tE K true env d)) {k : Nat} : PE X (.Compare a [.IsNot] [.Constant .none k p1] pos) (tE K m env (.bool (match d with | .none => false | _ => true))) :=
  e_cmp op_notN ha (e_non (m := true) (env := env)) (nomark _) (fun x y H Q hx hy q => by
    cases hy
    refine ⟨rfl, ?_⟩
    cases hx <;> exact q) fun _ => .bl _

/-! ### isinstance -/
def tyD : PyData → String
  | .none => "NoneType" | .bool _ => "bool" | .int _ => "int" | .str _ => "str" | .list _ => "list" | .tuple _ => "tuple" | .dict _ => "dict"
theorem tyx {H : Hp} {v : V} (h : Dq K H v d) : TyX K H v (.type (tyD d)) := by
  cases h with
  | non => exact .base .non
  | bl b => exact .base (.bl b)
  | int i => exact .base (.int i)
  | str x => exact .base (.str x)
  | lst h1 _ => exact .base (.lst h1)
  | tup h1 _ =>
    rcases h1 with (h1 | ⟨o, h1⟩) | ⟨o, its, n, h1, h2, _⟩
    · exact .base (.tup h1)
    · exact .fTuple h1
    · exact .kTuple h1 h2
theorem e_isi {T : String} {r : Bool} (hm : X.mg "isinstance" = none) (ha : PE X a (tE X.K m1 env d)) (hb : PE X b (tC (.ty T))) (hr : kitB (tyD d) T = some r) (hg : Gl X "isinstance" := by rfl) (na : NS X a := by exact fun _ => rfl) (nb : NS X b := by exact fun _ => rfl) :
    PE X (.Call (.Name "isinstance" p1) [a, b] [] pos) (tE X.K m env (.bool r)) :=
  pmono (pe_callB call_isi hg hm PyProof.Rows.boot_isinstance (pa_cons ha (pa_cons hb pa_nil (nb [])) (na [b])) (he := na [b]) (hpl := by rw [nb []]; rfl)) fun σ H Q ⟨F0, H0, F, ok, k⟩ => ⟨F0, H0, F, ok, fun v F1 H1 g1 x =>
    ⟨v, .ty T, _, _, r, rfl, .ty T, tyx (seldq g1.fh x), kit_ty hr, k _ F1 H1 g1 (.bl _)⟩⟩
/-- a built-in class by its name -/
theorem ty_int (hm : X.mg "int" = none) (hg : Gl X "int" := by rfl) : PE X (.Name "int" pos) (tC (.ty "int")) := pe_bltn hg hm PyProof.Rows.boot_int rfl
theorem ty_bool (hm : X.mg "bool" = none) (hg : Gl X "bool" := by rfl) : PE X (.Name "bool" pos) (tC (.ty "bool")) := pe_bltn hg hm PyProof.Rows.boot_bool rfl
theorem ty_list (hm : X.mg "list" = none) (hg : Gl X "list" := by rfl) : PE X (.Name "list" pos) (tC (.ty "list")) := pe_bltn hg hm PyProof.Rows.boot_list rfl
theorem ty_tuple (hm : X.mg "tuple" = none) (hg : Gl X "tuple" := by rfl) : PE X (.Name "tuple" pos) (tC (.ty "tuple")) := pe_bltn hg hm PyProof.Rows.boot_tuple rfl
theorem ty_str (hm : X.mg "str" = none) (hg : Gl X "str" := by rfl) : PE X (.Name "str" pos) (tC (.ty "str")) := pe_bltn hg hm PyProof.Rows.boot_str rfl

/-! ### repr of a flat thing -/
theorem call_repr_bool : CallR X (.builtin "repr") (fun xs H Q => ∃ b, xs = [.bl b] ∧ Q (.str (if b then "True" else "False")) H) := by
  intro pins s σ H xs us Q I r h
  obtain ⟨i, rfl, q⟩ := h
  obtain ⟨u, rfl, t⟩ := vals1 r
  cases (show u = Value.bool i from t)
  exact PySem.P.repr_of_bool ⟨.str _, H, I.tok _, ⟨_, rfl⟩, q⟩
theorem e_reprB {k : Bool} (hm : X.mg "repr" = none) (h : PE X e (tE X.K true env (.bool k))) (hg : Gl X "repr" := by rfl) (ns : NS X e := by exact fun _ => rfl) : PE X (.Call (.Name "repr" p1) [e] [] pos) (tE X.K m env (.str (if k then "True" else "False"))) :=
  pmono (pe_callB call_repr_bool hg hm PyProof.Rows.boot_repr (pa_cons h pa_nil (ns [])) (he := ns [])) fun σ H Q ⟨F0, H0, F, ok, q⟩ => ⟨F0, H0, F, ok, fun v F1 H1 g1 x => by
    cases x
    exact ⟨k, rfl, q _ F1 H1 g1 (.str _)⟩⟩

/-! ### statements, again -/
theorem s_fork (h1 : PS X st (tS K env (E.to fun e => PSs X rest (tS K e E)))) : PSs X (st :: rest) (tS K env E) := s_cons h1 fun e q => q
/-- for k in range(n) -/
theorem s_forR {j : Nat} {n : Int} {body : List Stmt} {y : Str} (T : Nat → List Sl) (hp : PassesOwn (model X.prog X.w) X.A X.env X.xe) (hm : X.mg "range" = none) (ha : PE X a (tE X.K true env (.int n))) (hj : -(2 ^ 62) ≤ n ∧ n < 2 ^ 62)
    (hN : X.N.Nodup) (hi : X.N[j]? = some y) (h0 : LeE env (T 0))
    (hb : ∀ i : Nat, (i : Int) < n → PSs X body (tS X.K ((T i).set j (.dat (.int (i : Int)))) ⟨fun e => LeE e (T (i + 1)), E.rt, E.nx, fun e => LeE e (T (i + 1))⟩)) (hd : ∀ e, LeE e (T n.toNat) → E.nx e)
    (hc : X.calm = true := by rfl) (hx : Loc X.env.scope y := by first | exact .inl rfl | exact .inr rfl) (hf : X.fn y = true ∨ X.env.scope.names.lookup y = some .local := by first | exact .inl rfl | exact .inr rfl)
    (hs : ∀ x, foldedSetIterable (.Call (.Name "range" p) [a] [] p1) X.env x = pure x := by intro _; rfl) (hg : Gl X "range" := by rfl) (na : NS X a := by exact fun _ => rfl) : PS X (.For (.Name y p3) (.Call (.Name "range" p) [a] [] p1) body [] pos) (tS X.K env E) := by
  have e0 : ∀ i : Nat, (0 : Int) + (i : Int) = (i : Int) := fun i => Int.zero_add _
  refine s_for (zs := List.range n.toNat) (enc := fun (i : Nat) => PyData.int (0 + (i : Int))) (f := fun (i : Nat) e => e.set j (.dat (.int (0 + (i : Int))))) (fun i e => LeE e (T i)) hp (i_rng1 hm ha hj hg na) (pg_name hN hi hx hf) (fun z _ => asg_nameA _) h0 (fun i z env' hz hI => ?_) (by rw [List.length_range]; exact hd) hc hs
  have hi' : i < n.toNat := by simpa using (List.getElem?_eq_some_iff.mp hz).1
  have hz' : z = i := by
    rw [List.getElem?_range hi'] at hz
    exact (Option.some.inj hz).symm
  subst hz'
  have hset : ∀ (as bs : List Sl) (j : Nat) (s : Sl), LeE as bs → LeE (as.set j s) (bs.set j s) := by
    intro as
    induction as with
    | nil => intro bs j s h; cases bs with
      | nil => exact trivial
      | cons => exact h.elim
    | cons a as ih => intro bs j s h; cases bs with
      | nil => exact h.elim
      | cons b bs => cases j with
        | zero => exact ⟨.inr rfl, h.2⟩
        | succ j => exact ⟨h.1, ih bs j s h.2⟩
  show PSs X body (tS X.K (env'.set j (.dat (.int (0 + (z : Int))))) _)
  rw [e0]
  exact s_le (hset _ _ j _ hI) (hb z (by omega))
theorem LeE.set_ : ∀ {as bs : List Sl} {j : Nat} {s : Sl}, LeE as bs → LeE (as.set j s) (bs.set j s)
  | [], [], _, _, _ => trivial
  | a :: as, b :: bs, 0, s, h => ⟨.inr rfl, h.2⟩
  | a :: as, b :: bs, j + 1, s, h => ⟨h.1, LeE.set_ h.2⟩
  | [], _ :: _, _, _, h => h.elim
  | _ :: _, [], _, _, h => h.elim
/-- for x in xs -/
theorem s_forL {α : Type} {enc : α → PyData} {zs : List α} {j : Nat} {l : Expr} {body : List Stmt} {y : Str} (T : Nat → List Sl) (hp : PassesOwn (model X.prog X.w) X.A X.env X.xe) (ha : PE X l (tE X.K true env (.list (zs.map enc))))
    (hN : X.N.Nodup) (hi : X.N[j]? = some y) (h0 : LeE env (T 0))
    (hb : ∀ (i : Nat) z, zs[i]? = some z → PSs X body (tS X.K ((T i).set j (.dat (enc z))) ⟨fun e => LeE e (T (i + 1)), E.rt, E.nx, fun e => LeE e (T (i + 1))⟩)) (hd : ∀ e, LeE e (T zs.length) → E.nx e)
    (hc : X.calm = true := by rfl) (hx : Loc X.env.scope y := by first | exact .inl rfl | exact .inr rfl) (hf : X.fn y = true ∨ X.env.scope.names.lookup y = some .local := by first | exact .inl rfl | exact .inr rfl)
    (hs : ∀ x, foldedSetIterable l X.env x = pure x := by intro _; rfl) : PS X (.For (.Name y p3) l body [] pos) (tS X.K env E) :=
  s_for (zs := zs) (enc := enc) (f := fun z e => e.set j (.dat (enc z))) (fun i e => LeE e (T i)) hp (i_list ha) (pg_name hN hi hx hf) (fun z _ => asg_nameA _) h0 (fun i z env' hz hI => s_le (LeE.set_ hI) (hb i z hz)) hd hc hs
end
end D3
namespace D3
open PySem PySem.Spec L2
section
variable {X : Cx} {K : KF} {e a b c : Expr} {es : List Expr} {m m1 m2 m3 : Bool} {env : List Sl} {d d1 d2 : PyData} {ds ds1 ds2 : List PyData} {pos p p1 p2 p3 p4 : Pos} {x : Str} {i j : Int} {E : DE} {st : Stmt} {rest : List Stmt}
abbrev eL {α : Type} (f : α → PyData) (z : List α) : PyData := .list (z.map f)
abbrev eT2 {α β : Type} (f : α → PyData) (g : β → PyData) (z : α × β) : PyData := .tuple [f z.1, g z.2]
abbrev eT3 {α β γ : Type} (f : α → PyData) (g : β → PyData) (h : γ → PyData) (z : α × β × γ) : PyData := .tuple [f z.1, g z.2.1, h z.2.2]
def setAll (env : List Sl) : List (Nat × Sl) → List Sl
  | [] => env
  | p :: ps => setAll (env.set p.1 p.2) ps
theorem e_ifG {α : Type} {enc : α → PyData} {x y : α} {k : Bool} (hc : PT X c (tT K env k)) (ha : k = true → PE X a (tE K m env (enc x))) (hb : k = false → PE X b (tE K m env (enc y))) : PE X (.IfExp c a b pos) (tE K m env (enc (if k then x else y))) :=
  e_if hc (fun h => by subst h; exact ha rfl) (fun h => by subst h; exact hb rfl)
theorem i_rngN {tg : Expr} (hm : X.mg "range" = none) (ha : PE X a (tE X.K true env (.int j))) (hj : -(2 ^ 62) ≤ j ∧ j < 2 ^ 62) (hg : Gl X "range" := by rfl) (na : NS X a := by exact fun _ => rfl) : PI X tg (.Call (.Name "range" p1) [a] [] pos) (tI X.K env ((List.range j.toNat).map fun (i : Nat) => .int (i : Int))) := by
  have h := i_rng1 (tg := tg) (p1 := p1) (pos := pos) hm ha hj hg na
  have e : rangeD 0 j.toNat = (List.range j.toNat).map fun (i : Nat) => PyData.int (i : Int) := by
    unfold rangeD
    congr 1
    funext i
    rw [Int.zero_add]
  rwa [e] at h
theorem i_rngN2 {tg : Expr} (hm : X.mg "range" = none) (ha : PE X a (tE X.K true env (.int i))) (hb : PE X b (tE X.K true env (.int j))) (hj : -(2 ^ 62) ≤ i ∧ i < 2 ^ 62 ∧ -(2 ^ 62) ≤ j ∧ j < 2 ^ 62) (hg : Gl X "range" := by rfl) (na : NS X a := by exact fun _ => rfl) (nb : NS X b := by exact fun _ => rfl) :
    PI X tg (.Call (.Name "range" p1) [a, b] [] pos) (tI X.K env ((List.range (j - i).toNat).map fun (k : Nat) => .int (i + (k : Int)))) := i_rng2 hm ha hb hj hg na nb
/-- comprehensions, typed -/
theorem o_lcT {α β : Type} {zs : List α} {enc : α → PyData} {encB : β → PyData} {g : TG} {ix : List Nat} {f : α → List Sl → List Sl} {tb : α → Bool} {y : α → β} {own : List (Str × Nat)} {tg iter elt : Expr} {ifs : List Expr} {scope : Scope}
    (hN : X.N.Nodup) (hi : PI X tg iter (tI X.K env (zs.map enc))) (hl : zs.length ≤ 1000000) (okb : blkC X.N X.env.scope scope own = true) (hg : Blk X scope fun X' => PG X' tg g)
    (hf : ∀ z ∈ zs, Asg X.K g (enc z) (f z) ix) (hix : ∀ i ∈ ix, i ∈ own.map (·.2))
    (ht : ∀ z ∈ zs, Blk X scope fun X' => PTs X' ifs (tT X.K (f z (wipeE env (own.map (·.2)))) (tb z)))
    (he : ∀ z ∈ zs, tb z = true → Blk X scope fun X' => PE X' elt (tE X.K true (f z (wipeE env (own.map (·.2)))) (encB (y z))))
    (hc : X.calm = true := by rfl) (hs : ∀ x, foldedSetIterable iter X.env x = pure x := by intro _; rfl) : PE X (.ListComp elt [⟨tg, iter, ifs, 0⟩] scope pos) (tO X.K env (((zs.filter tb).map y).map encB)) := by
  have h := o_lc (pos := pos) (y := fun z => encB (y z)) hN hi hl okb hg hf hix ht he hc hs
  rwa [show (fun z => encB (y z)) = encB ∘ y from rfl, ← List.map_map] at h
theorem o_lcTA {α β : Type} {zs : List α} {enc : α → PyData} {encB : β → PyData} {g : TG} {ix : List Nat} {f : α → List Sl → List Sl} {y : α → β} {own : List (Str × Nat)} {tg iter elt : Expr} {scope : Scope}
    (hN : X.N.Nodup) (hi : PI X tg iter (tI X.K env (zs.map enc))) (hl : zs.length ≤ 1000000) (okb : blkC X.N X.env.scope scope own = true) (hg : Blk X scope fun X' => PG X' tg g)
    (hf : ∀ z ∈ zs, Asg X.K g (enc z) (f z) ix) (hix : ∀ i ∈ ix, i ∈ own.map (·.2))
    (he : ∀ z ∈ zs, Blk X scope fun X' => PE X' elt (tE X.K true (f z (wipeE env (own.map (·.2)))) (encB (y z))))
    (hc : X.calm = true := by rfl) (hs : ∀ x, foldedSetIterable iter X.env x = pure x := by intro _; rfl) : PE X (.ListComp elt [⟨tg, iter, [], 0⟩] scope pos) (tO X.K env ((zs.map y).map encB)) := by
  have h := o_lcA (pos := pos) (y := fun z => encB (y z)) hN hi hl okb hg hf hix he hc hs
  rwa [show (fun z => encB (y z)) = encB ∘ y from rfl, ← List.map_map] at h
theorem s_setLcT {α β : Type} {zs : List α} {enc : α → PyData} {encB : β → PyData} {g : TG} {ix : List Nat} {f : α → List Sl → List Sl} {tb : α → Bool} {y : α → β} {own : List (Str × Nat)} {tg iter elt : Expr} {ifs : List Expr} {scope : Scope} {x : Str} {py spos : Pos} (i : Nat)
    (hN : X.N.Nodup) (hxi : X.N[i]? = some x) (hi : PI X tg iter (tI X.K env (zs.map enc))) (hl : zs.length ≤ 1000000) (okb : blkC X.N X.env.scope scope own = true) (hg : Blk X scope fun X' => PG X' tg g)
    (hf : ∀ z ∈ zs, Asg X.K g (enc z) (f z) ix) (hix : ∀ i ∈ ix, i ∈ own.map (·.2))
    (ht : ∀ z ∈ zs, Blk X scope fun X' => PTs X' ifs (tT X.K (f z (wipeE env (own.map (·.2)))) (tb z)))
    (he : ∀ z ∈ zs, tb z = true → Blk X scope fun X' => PE X' elt (tE X.K true (f z (wipeE env (own.map (·.2)))) (encB (y z))))
    (h : E.nx (env.set i (.own (((zs.filter tb).map y).map encB)))) (hsw : swapsWith (.ListComp elt [⟨tg, iter, ifs, 0⟩] scope pos) (some (.Name x py)) spos.line X.env = pure true := by exact sw_true rfl rfl rfl (by decide +kernel)) (hyl : X.env.scope.names.lookup x = some .local := by rfl)
    (hc : X.calm = true := by rfl) (hs : ∀ x, foldedSetIterable iter X.env x = pure x := by intro _; rfl) : PS X (.Assign [.Name x py] (.ListComp elt [⟨tg, iter, ifs, 0⟩] scope pos) spos) (tS X.K env E) :=
  s_setLc (y := fun z => encB (y z)) i hN hxi hi hl okb hg hf hix ht he (by rw [show (fun z => encB (y z)) = encB ∘ y from rfl, ← List.map_map]; exact h) hsw hyl hc hs
theorem s_setLcTA {α β : Type} {zs : List α} {enc : α → PyData} {encB : β → PyData} {g : TG} {ix : List Nat} {f : α → List Sl → List Sl} {y : α → β} {own : List (Str × Nat)} {tg iter elt : Expr} {scope : Scope} {x : Str} {py spos : Pos} (i : Nat)
    (hN : X.N.Nodup) (hxi : X.N[i]? = some x) (hi : PI X tg iter (tI X.K env (zs.map enc))) (hl : zs.length ≤ 1000000) (okb : blkC X.N X.env.scope scope own = true) (hg : Blk X scope fun X' => PG X' tg g)
    (hf : ∀ z ∈ zs, Asg X.K g (enc z) (f z) ix) (hix : ∀ i ∈ ix, i ∈ own.map (·.2))
    (he : ∀ z ∈ zs, Blk X scope fun X' => PE X' elt (tE X.K true (f z (wipeE env (own.map (·.2)))) (encB (y z))))
    (h : E.nx (env.set i (.own ((zs.map y).map encB)))) (hsw : swapsWith (.ListComp elt [⟨tg, iter, [], 0⟩] scope pos) (some (.Name x py)) spos.line X.env = pure true := by exact sw_true rfl rfl rfl (by decide +kernel)) (hyl : X.env.scope.names.lookup x = some .local := by rfl)
    (hc : X.calm = true := by rfl) (hs : ∀ x, foldedSetIterable iter X.env x = pure x := by intro _; rfl) : PS X (.Assign [.Name x py] (.ListComp elt [⟨tg, iter, [], 0⟩] scope pos) spos) (tS X.K env E) :=
  s_setLcA (y := fun z => encB (y z)) i hN hxi hi hl okb hg hf hix he (by rw [show (fun z => encB (y z)) = encB ∘ y from rfl, ← List.map_map]; exact h) hsw hyl hc hs
/-- for k in range(n), then the rest: U what the turns make of the slots -/
theorem c_forR {j : Nat} {n : Int} {body : List Stmt} {y : Str} (U : Nat → List (Nat × Sl)) (hp : PassesOwn (model X.prog X.w) X.A X.env X.xe) (hm : X.mg "range" = none) (ha : PE X a (tE X.K true env (.int n))) (hj : -(2 ^ 62) ≤ n ∧ n < 2 ^ 62)
    (hN : X.N.Nodup) (hi : X.N[j]? = some y) (h0 : LeE env (setAll env (U 0)))
    (hb : ∀ i : Nat, (i : Int) < n → PSs X body (tS X.K ((setAll env (U i)).set j (.dat (.int (i : Int)))) ⟨fun e => LeE e (setAll env (U (i + 1))), E.rt, fun e => PSs X rest (tS X.K e E), fun e => LeE e (setAll env (U (i + 1)))⟩)) (hd : PSs X rest (tS X.K (setAll env (U n.toNat)) E))
    (hc : X.calm = true := by rfl) (hx : Loc X.env.scope y := by first | exact .inl rfl | exact .inr rfl) (hf : X.fn y = true ∨ X.env.scope.names.lookup y = some .local := by first | exact .inl rfl | exact .inr rfl)
    (hs : ∀ x, foldedSetIterable (.Call (.Name "range" p) [a] [] p1) X.env x = pure x := by intro _; rfl) (hg : Gl X "range" := by rfl) (na : NS X a := by exact fun _ => rfl) : PSs X (.For (.Name y p3) (.Call (.Name "range" p) [a] [] p1) body [] pos :: rest) (tS X.K env E) :=
  s_cons (M := fun e => PSs X rest (tS X.K e E)) (s_forR (E := E.to fun e => PSs X rest (tS X.K e E)) (fun i => setAll env (U i)) hp hm ha hj hN hi h0 hb (fun e he => s_le he hd) hc hx hf hs hg na) fun e q => q
/-- n a length -/
theorem c_forRN {j : Nat} {n : Nat} {body : List Stmt} {y : Str} (U : Nat → List (Nat × Sl)) (hp : PassesOwn (model X.prog X.w) X.A X.env X.xe) (hm : X.mg "range" = none) (ha : PE X a (tE X.K true env (.int (n : Int)))) (hj : n < 2 ^ 62)
    (hN : X.N.Nodup) (hi : X.N[j]? = some y) (h0 : LeE env (setAll env (U 0)))
    (hb : ∀ i : Nat, i < n → PSs X body (tS X.K ((setAll env (U i)).set j (.dat (.int (i : Int)))) ⟨fun e => LeE e (setAll env (U (i + 1))), E.rt, fun e => PSs X rest (tS X.K e E), fun e => LeE e (setAll env (U (i + 1)))⟩)) (hd : PSs X rest (tS X.K (setAll env (U n)) E))
    (hc : X.calm = true := by rfl) (hx : Loc X.env.scope y := by first | exact .inl rfl | exact .inr rfl) (hf : X.fn y = true ∨ X.env.scope.names.lookup y = some .local := by first | exact .inl rfl | exact .inr rfl)
    (hs : ∀ x, foldedSetIterable (.Call (.Name "range" p) [a] [] p1) X.env x = pure x := by intro _; rfl) (hg : Gl X "range" := by rfl) (na : NS X a := by exact fun _ => rfl) : PSs X (.For (.Name y p3) (.Call (.Name "range" p) [a] [] p1) body [] pos :: rest) (tS X.K env E) :=
  c_forR U hp hm ha ⟨by omega, by omega⟩ hN hi h0 (fun i h => hb i (by omega)) hd hc hx hf hs hg na
theorem c_forL {α : Type} {enc : α → PyData} {zs : List α} {j : Nat} {l : Expr} {body : List Stmt} {y : Str} (U : Nat → List (Nat × Sl)) (hp : PassesOwn (model X.prog X.w) X.A X.env X.xe) (ha : PE X l (tE X.K true env (.list (zs.map enc))))
    (hN : X.N.Nodup) (hi : X.N[j]? = some y) (h0 : LeE env (setAll env (U 0)))
    (hb : ∀ (i : Nat) z, zs[i]? = some z → PSs X body (tS X.K ((setAll env (U i)).set j (.dat (enc z))) ⟨fun e => LeE e (setAll env (U (i + 1))), E.rt, fun e => PSs X rest (tS X.K e E), fun e => LeE e (setAll env (U (i + 1)))⟩)) (hd : PSs X rest (tS X.K (setAll env (U zs.length)) E))
    (hc : X.calm = true := by rfl) (hx : Loc X.env.scope y := by first | exact .inl rfl | exact .inr rfl) (hf : X.fn y = true ∨ X.env.scope.names.lookup y = some .local := by first | exact .inl rfl | exact .inr rfl)
    (hs : ∀ x, foldedSetIterable l X.env x = pure x := by intro _; rfl) : PSs X (.For (.Name y p3) l body [] pos :: rest) (tS X.K env E) :=
  s_cons (M := fun e => PSs X rest (tS X.K e E)) (s_forL (E := E.to fun e => PSs X rest (tS X.K e E)) (fun i => setAll env (U i)) hp ha hN hi h0 hb (fun e he => s_le he hd) hc hx hf hs) fun e q => q
/-- while: the state as a function of the turn; c tells whether it goes on -/
theorem c_while {body : List Stmt} (U : Nat → List (Nat × Sl)) (k : Nat → Bool) (n : Nat) (hp : PassesOwn (model X.prog X.w) X.A X.env X.xe) (h0 : LeE env (setAll env (U 0))) (hk : ∀ i, i < n → k i = true) (hn : k n = false)
    (hc : ∀ i, i ≤ n → PT X c (tT X.K (setAll env (U i)) (k i)))
    (hb : ∀ i, i < n → PSs X body (tS X.K (setAll env (U i)) ⟨fun e => LeE e (setAll env (U (i + 1))), E.rt, fun e => PSs X rest (tS X.K e E), fun e => LeE e (setAll env (U (i + 1)))⟩)) (hd : PSs X rest (tS X.K (setAll env (U n)) E)) : PSs X (.While c body [] pos :: rest) (tS X.K env E) := by
  refine s_cons (M := fun e => PSs X rest (tS X.K e E)) (s_le1 h0 ?_) fun e q => q
  refine psmono (ps_while (tc := fun σ H Q => ∃ i, i ≤ n ∧ tT X.K (setAll env (U i)) (k i) σ H Q) (tb := fun D σ H => ∃ i, i < n ∧ tS X.K (setAll env (U i)) ⟨fun e => LeE e (setAll env (U (i + 1))), E.rt, fun e => PSs X rest (tS X.K e E), fun e => LeE e (setAll env (U (i + 1)))⟩ D σ H) hp
    ⟨fun pins s σ H Q J ⟨i, h, q⟩ => (hc i h).run pins s σ H Q J q⟩ ⟨fun pins s σ H D J ⟨i, h, q⟩ => (hb i h).run pins s σ H D J q⟩) fun D σ H ⟨F0, H0, F, ok, nx, bk, ct, rt⟩ => ?_
  refine ⟨fun m σ' H' => ∃ i F', i ≤ n ∧ m = n - i ∧ Ok X.K F0 H0 (setAll env (U i)) σ' F' H', ⟨n, 0, F, Nat.zero_le _, rfl, ok⟩, ?_⟩
  rintro m σ' H' ⟨i, F', hi, rfl, ok'⟩
  refine ⟨i, hi, F0, H0, F', ok', fun F1 H1 g1 => ?_⟩
  by_cases hlt : i < n
  · rw [hk i hlt]
    show ∃ N : L2.St → Hp → Prop, _
    refine ⟨fun σ2 H2 => ∃ F2, Ok X.K F0 H0 (setAll env (U (i + 1))) σ2 F2 H2, fun σ2 H2 ⟨F2, q⟩ => ⟨n - (i + 1), by omega, i + 1, F2, hlt, rfl, q⟩, i, hlt, F0, H0, F1, ok'.grow g1, fun e2 σ2 F2 H2 h2 ok2 => ⟨F2, ok2.le h2⟩, fun e2 σ2 F2 H2 h2 ok2 => nx e2 σ2 F2 H2 h2 ok2, fun e2 σ2 F2 H2 h2 ok2 => ⟨F2, ok2.le h2⟩, rt⟩
  · have e : i = n := by omega
    subst e
    rw [hn]
    exact nx _ σ' F1 H1 hd (ok'.grow g1)
end
end D3
namespace D3
open PySem PySem.Spec L2
section
variable {X : Cx} {K : KF} {e a b c : Expr} {es : List Expr} {m m1 m2 m3 : Bool} {env : List Sl} {d d1 d2 : PyData} {ds ds1 ds2 : List PyData} {pos p p1 p2 p3 p4 : Pos} {x y : Str} {i j : Int} {E : DE} {st : Stmt} {rest : List Stmt} {ns : List Int}
theorem e_lenScrD (i : Nat) (hm : X.mg "len" = none) (he : env[i]? = some (.scr ns)) (hN : X.N[i]? = some x := by rfl) (hv : Vis X.env.scope x := by first | exact .inl rfl | exact .inr (.inl rfl) | exact .inr (.inr rfl)) (hd : (x == ("__debug__" : Str)) = false := by decide) (hcd : (x == ("__classdict__" : Str)) = false := by decide) (hg : Gl X "len" := by rfl) :
    PE X (.Call (.Name "len" p1) [.Name x p2] [] pos) (tE X.K m env (.int (ns.length : Int))) := e_lenScr i hm he hN hv hd hcd hg
theorem e_ixScrD (i : Nat) (he : env[i]? = some (.scr ns)) (hb : PE X b (tE X.K true env (.int j))) (hj : 0 ≤ j ∧ j < ns.length) (hN : X.N[i]? = some x := by rfl) (hv : Vis X.env.scope x := by first | exact .inl rfl | exact .inr (.inl rfl) | exact .inr (.inr rfl)) (hs : PlainIx b := by exact fun _ _ => rfl)
    (hd : (x == ("__debug__" : Str)) = false := by decide) (hcd : (x == ("__classdict__" : Str)) = false := by decide) : PE X (.Subscript (.Name x p1) b pos) (tE X.K m env (.int (ns.getD j.toNat 0))) :=
  e_ixScr he hN hv hb (atI_pos hj.1 hj.2) hs hd hcd
theorem s_setIxD {j : Int} (i : Nat) (ho : env[i]? = some (.own ds)) (he : PE X e (tE X.K true env d)) (hb : PE X b (tE X.K true env (.int j))) (hj : 0 ≤ j ∧ j < ds.length) (h : E.nx (env.set i (.own (ds.set j.toNat d)))) (hi : X.N[i]? = some x := by rfl) (hv : Vis X.env.scope x := by first | exact .inl rfl | exact .inr (.inl rfl) | exact .inr (.inr rfl))
    (hd : (x == ("__debug__" : Str)) = false := by decide) (hcd : (x == ("__classdict__" : Str)) = false := by decide)
    (ha : ∀ v, assign (.Subscript (.Name x p1) b p2) X.env v = (do
      let ov ← holding [v] (eval (.Name x p1) X.env)
      let iv ← holding [v, ov] (eval b X.env)
      standAt p2
      holding [v, ov, iv] (setItem ov iv v)
      release [v, ov, iv] []) := by intro _; rfl)
    (hs : swapsWithSole [.Subscript (.Name x p1) b p2] e pos.line X.env = pure false := by rfl) (hw : swappedStores [.Subscript (.Name x p1) b p2] e X.env = pure none := by rfl) : PS X (.Assign [.Subscript (.Name x p1) b p2] e pos) (tS X.K env E) :=
  s_setIx (k := j) (j := j.toNat) i hi hv ho he hb (by unfold ixN; rw [if_pos hj.1, if_pos hj.2]) h hd hcd (fun {t} ht => pg_sub (pe_var hi hv hd hcd) hb ht ha) hs hw
/-- the items of an own list as plain ones -/
theorem setMap {α : Type} {enc : α → PyData} {zs : List α} {n : Nat} {z : α} : (zs.map enc).set n (enc z) = (zs.set n z).map enc := by rw [List.map_set]
theorem o_callScrD {k : Nat} {R : List Int → RS → Prop} {rs : List PyData} (i : Nat) (D : Def X.prog X.w X.K X.mg X.base k x (spScr X.K R)) (hr : Room k X.A) (ho : env[i]? = some (.scr ns)) (hR : R ns (.own rs)) (hN : X.N[i]? = some y := by rfl) (hv : Vis X.env.scope y := by first | exact .inl rfl | exact .inr (.inl rfl) | exact .inr (.inr rfl)) (hg : Gl X x := by rfl) (hdb : (x == ("__debug__" : Str)) = false := by decide)
    (hd : (y == ("__debug__" : Str)) = false := by decide) (hcd : (y == ("__classdict__" : Str)) = false := by decide) : PE X (.Call (.Name x p) [.Name y pos] [] pos) (tO X.K env rs) := o_callScr i D hr hN hv ho hR hg hdb hd hcd
theorem o_callScrD' {k : Nat} {R : List Int → RS → Prop} {rs : List PyData} (i : Nat) (D : Def X.prog X.w X.K X.mg X.base k x (spScr X.K R)) (hr : Room k X.A) (ho : env[i]? = some (.scr ns)) (hR : R ns (.own rs)) (hN : X.N[i]? = some y := by rfl) (hv : Vis X.env.scope y := by first | exact .inl rfl | exact .inr (.inl rfl) | exact .inr (.inr rfl)) (hg : Gl X x := by rfl) (hdb : (x == ("__debug__" : Str)) = false := by decide)
    (hd : (y == ("__debug__" : Str)) = false := by decide) (hcd : (y == ("__classdict__" : Str)) = false := by decide) : PE X (.Call (.Name x p) [.Name y p2] [] pos) (tO X.K env rs) := by
  obtain ⟨f, fd, ps, Fo, hm, hk, hb⟩ := D
  exact pmono (pe_call (E := E0) Fo hr hg hm hk hb .nil pass0 (pa_cons (pe_var hN hv hd hcd) pa_nil) hdb) fun σ H Q ⟨F0, H0, F, ok, q⟩ => by
    obtain ⟨a, h1, h2⟩ := ok.scr i ns ho
    exact ⟨.ref a, h1, F, a, ns, .own rs, rfl, ok.g.fh, h2, hR, fun p vs2 F2 H2 g2 h1 h2 h3 h4 => q p vs2 F2 H2 g2 h1 h2 h3 h4⟩
theorem e_allD {bs : List Bool} (hm : X.mg "all" = none) (h : PE X e (tL X.K env (bs.map .bool))) (hg : Gl X "all" := by rfl) (hc : X.calm = true := by rfl) (ns : NS X e := by exact fun _ => rfl) : PE X (.Call (.Name "all" p1) [e] [] pos) (tE X.K m env (.bool (bs.all id))) := e_all hm h hg (by decide +kernel) (cr_all hc) ns
theorem e_anyD {bs : List Bool} (hm : X.mg "any" = none) (h : PE X e (tL X.K env (bs.map .bool))) (hg : Gl X "any" := by rfl) (hc : X.calm = true := by rfl) (ns : NS X e := by exact fun _ => rfl) : PE X (.Call (.Name "any" p1) [e] [] pos) (tE X.K m env (.bool (bs.any id))) := e_any hm h hg (by decide +kernel) (cr_any hc) ns
theorem o_init {α : Type} {enc : α → PyData} {zs : List α} {k : Nat} (h : PE X e (tL X.K env (zs.map enc))) : PE X (.Subscript e (.Slice none (some (.UnaryOp .USub (.Constant (.int 1) k p1) p2)) none p3) pos) (tO X.K env (zs.dropLast.map enc)) :=
  o_eq (o_sl h o_no (o_so (e_neg e_int))) (by rw [map_cutD]; congr 1; exact cut_m1)
theorem e_lenG {α : Type} {enc : α → PyData} {zs : List α} (hm : X.mg "len" = none) (h : PE X e (tL X.K env (zs.map enc))) (hg : Gl X "len" := by rfl) (ns : NS X e := by exact fun _ => rfl) : PE X (.Call (.Name "len" p1) [e] [] pos) (tE X.K m env (.int (zs.length : Int))) :=
  e_eq (e_len hm h hg ns) (by rw [List.length_map])
/-! ### comparisons, as values and as tests -/
theorem cmpE {op : CmpOp} {r : R2} {k : Bool} (ho : OpR X (compareOp op) r) (ha : PE X a (tE K m1 env d1)) (hb : PE X b (tE K m2 env d2)) (hm : behindInMarks op b = false)
    (hr : ∀ x y H Q, Dq K H x d1 → Dq K H y d2 → Q (.bl k) H → r x y H Q) : (PE X (.Compare a [op] [b] pos) (tE K m env (.bool k))) ∧ PT X (.Compare a [op] [b] pos) (tT K env k) :=
  ⟨e_cmp ho ha hb hm hr fun _ => .bl _, ptmono (pt_cmpR ho ha hb hm) fun σ H Q ⟨F0, H0, F, ok, q⟩ => ⟨F0, H0, F, ok, fun x F1 H1 g1 x1 => ⟨F0, H0, F1, ok.grow g1, fun y F2 H2 g2 y2 =>
    hr x y H2 (fun z H' => ∃ k, z = .bl k ∧ Q k H') (seldq g2.fh (selup g2 x1)) (seldq g2.fh y2) ⟨k, rfl, q F2 H2 (g1.trans g2)⟩⟩⟩⟩
section
variable {i j : Int}
theorem cI {op : CmpOp} {g : Int → Int → Bool} (ho : OpR X (compareOp op) (rI0 fun i j => .bl (g i j))) (ha : PE X a (tE K true env (.int i))) (hb : PE X b (tE K true env (.int j))) (hm : behindInMarks op b = false) : (PE X (.Compare a [op] [b] pos) (tE K m env (.bool (g i j)))) ∧ PT X (.Compare a [op] [b] pos) (tT K env (g i j)) :=
  cmpE ho ha hb hm fun x y H Q hx hy q => by cases hx; cases hy; exact ⟨i, j, rfl, rfl, q⟩
theorem c_lt (ha : PE X a (tE K true env (.int i))) (hb : PE X b (tE K true env (.int j))) : (PE X (.Compare a [.Lt] [b] pos) (tE K m env (.bool (decide (i < j))))) ∧ PT X (.Compare a [.Lt] [b] pos) (tT K env (decide (i < j))) := cI (g := fun i j => decide (i < j)) op_lt ha hb (nomark _)
theorem c_le (ha : PE X a (tE K true env (.int i))) (hb : PE X b (tE K true env (.int j))) : (PE X (.Compare a [.LtE] [b] pos) (tE K m env (.bool (decide (i ≤ j))))) ∧ PT X (.Compare a [.LtE] [b] pos) (tT K env (decide (i ≤ j))) := cI (g := fun i j => decide (i ≤ j)) op_le ha hb (nomark _)
theorem c_gt (ha : PE X a (tE K true env (.int i))) (hb : PE X b (tE K true env (.int j))) : (PE X (.Compare a [.Gt] [b] pos) (tE K m env (.bool (decide (j < i))))) ∧ PT X (.Compare a [.Gt] [b] pos) (tT K env (decide (j < i))) := cI (g := fun i j => decide (j < i)) op_gt ha hb (nomark _)
theorem c_ge (ha : PE X a (tE K true env (.int i))) (hb : PE X b (tE K true env (.int j))) : (PE X (.Compare a [.GtE] [b] pos) (tE K m env (.bool (decide (j ≤ i))))) ∧ PT X (.Compare a [.GtE] [b] pos) (tT K env (decide (j ≤ i))) := cI (g := fun i j => decide (j ≤ i)) op_ge ha hb (nomark _)
theorem c_eqI (ha : PE X a (tE K true env (.int i))) (hb : PE X b (tE K true env (.int j))) : (PE X (.Compare a [.Eq] [b] pos) (tE K m env (.bool (decide (i = j))))) ∧ PT X (.Compare a [.Eq] [b] pos) (tT K env (decide (i = j))) :=
  cmpE op_eq ha hb (nomark _) fun x y H Q hx hy q => by
    cases hx; cases hy
    refine ⟨rfl, ?_⟩
    have : decide (V.int i = V.int j) = decide (i = j) := by simp
    rw [this]; exact q
theorem c_neI (ha : PE X a (tE K true env (.int i))) (hb : PE X b (tE K true env (.int j))) : (PE X (.Compare a [.NotEq] [b] pos) (tE K m env (.bool (!decide (i = j))))) ∧ PT X (.Compare a [.NotEq] [b] pos) (tT K env (!decide (i = j))) :=
  cmpE op_ne ha hb (nomark _) fun x y H Q hx hy q => by
    cases hx; cases hy
    refine ⟨rfl, ?_⟩
    have : decide (V.int i = V.int j) = decide (i = j) := by simp
    rw [this]; exact q
end
theorem c_eqD (hu : X.A.units + 64 < cLine) (ha : PE X a (tE X.K m1 env d1)) (hb : PE X b (tE X.K m2 env d2)) (s1 : SeqAt.shaped d1 = true) (s2 : SeqAt.shaped d2 = true) : (PE X (.Compare a [.Eq] [b] pos) (tE X.K m env (.bool (PyData.eqv d1 d2)))) ∧ PT X (.Compare a [.Eq] [b] pos) (tT X.K env (PyData.eqv d1 d2)) :=
  cmpE (op_eqD hu) ha hb (nomark _) fun x y H Q hx hy q => ⟨d1, d2, Dq.dp _ _ hx, Dq.dp _ _ hy, s1, s2, q⟩
theorem c_neD (hu : X.A.units + 64 < cLine) (ha : PE X a (tE X.K m1 env d1)) (hb : PE X b (tE X.K m2 env d2)) (s1 : SeqAt.shaped d1 = true) (s2 : SeqAt.shaped d2 = true) : (PE X (.Compare a [.NotEq] [b] pos) (tE X.K m env (.bool (!PyData.eqv d1 d2)))) ∧ PT X (.Compare a [.NotEq] [b] pos) (tT X.K env (!PyData.eqv d1 d2)) :=
  cmpE (op_neD hu) ha hb (nomark _) fun x y H Q hx hy q => ⟨d1, d2, Dq.dp _ _ hx, Dq.dp _ _ hy, s1, s2, q⟩
theorem c_isB {k l : Bool} (ha : PE X a (tE K true env (.bool k))) (hb : PE X b (tE K true env (.bool l))) : (PE X (.Compare a [.Is] [b] pos) (tE K m env (.bool (decide (k = l))))) ∧ PT X (.Compare a [.Is] [b] pos) (tT K env (decide (k = l))) :=
  cmpE op_isBl ha hb (nomark _) fun x y H Q hx hy q => by cases hx; cases hy; exact ⟨k, l, rfl, rfl, q⟩
theorem c_notB {k l : Bool} (ha : PE X a (tE K true env (.bool k))) (hb : PE X b (tE K true env (.bool l))) : (PE X (.Compare a [.IsNot] [b] pos) (tE K m env (.bool (!decide (k = l))))) ∧ PT X (.Compare a [.IsNot] [b] pos) (tT K env (!decide (k = l))) :=
  cmpE op_notBl ha hb (nomark _) fun x y H Q hx hy q => by cases hx; cases hy; exact ⟨k, l, rfl, rfl, q⟩
def noneB : PyData → Bool | .none => true | _ => false
theorem c_isNone (ha : PE X a (tE K true env d)) {k : Nat} : (PE X (.Compare a [.Is] [.Constant .none k p1] pos) (tE K m env (.bool (noneB d)))) ∧ PT X (.Compare a [.Is] [.Constant .none k p1] pos) (tT K env (noneB d)) :=
  cmpE op_isN ha (e_non (m := true) (env := env)) (nomark _) fun x y H Q hx hy q => by
    cases hy
    refine ⟨rfl, ?_⟩
    cases hx <;> exact q
theorem c_notNone (ha : PE X a (tE K true env d)) {k : Nat} : (PE X (.Compare a [.IsNot] [.Constant .none k p1] pos) (tE K m env (.bool (!noneB d)))) ∧ PT X (.Compare a [.IsNot] [.Constant .none k p1] pos) (tT K env (!noneB d)) :=
  cmpE op_notN ha (e_non (m := true) (env := env)) (nomark _) fun x y H Q hx hy q => by
    cases hy
    refine ⟨rfl, ?_⟩
    cases hx <;> exact q
/-- zs * int(t) -/
theorem o_repB {α : Type} {enc : α → PyData} {zs : List α} {t : Bool} (ha : PE X a (tL X.K env (zs.map enc))) (hb : PE X b (tE X.K true env (.int (if t then 1 else 0)))) (hz : zs.length ≤ sizeLine) : PE X (.BinOp a .Mult b pos) (tO X.K env ((if t then zs else []).map enc)) := by
  have h := o_repG (pos := pos) ha hb (by cases t <;> decide) (by cases t <;> simp <;> omega)
  have e : repD zs (if t then 1 else 0) = (if t then zs else []) := by
    cases t with
    | false => rfl
    | true => show [zs].flatten = zs; simp
  rwa [e] at h
/-- a constant of the module -/
theorem e_globI {i : Int} (h : ∃ t, X.mg x = some (.int i t)) (hg : Gl X x := by rfl) (hd : (x == ("__debug__" : Str)) = false := by decide) : PE X (.Name x pos) (tE K m env (.int i)) := by
  obtain ⟨t, h⟩ := h
  exact e_const (pe_glob (v := .int i) hg h ⟨t, rfl⟩ hd) fun _ => .int i
theorem e_globS {z : Str} (h : ∃ t, X.mg x = some (.str z t)) (hg : Gl X x := by rfl) (hd : (x == ("__debug__" : Str)) = false := by decide) : PE X (.Name x pos) (tE K m env (.str z)) := by
  obtain ⟨t, h⟩ := h
  exact e_const (pe_glob (v := .str z) hg h ⟨t, rfl⟩ hd) fun _ => .str z
theorem e_addS {s t : Str} (hz : s.length + t.length ≤ sizeLine) (ha : PE X a (tE K true env (.str s))) (hb : PE X b (tE K true env (.str t))) : PE X (.BinOp a .Add b pos) (tE K m env (.str (s ++ t))) :=
  e_bin op_add_str ha hb (fun x y H Q hx hy q => by cases hx; cases hy; exact ⟨s, t, rfl, rfl, hz, q⟩) fun _ => .str _
theorem isi_int_int : kitB "int" "int" = some true := by decide +kernel
theorem isi_int_bool : kitB "int" "bool" = some false := by decide +kernel
theorem isi_int_str : kitB "int" "str" = some false := by decide +kernel
theorem isi_int_list : kitB "int" "list" = some false := by decide +kernel
theorem isi_int_tuple : kitB "int" "tuple" = some false := by decide +kernel
theorem isi_bool_int : kitB "bool" "int" = some true := by decide +kernel
theorem isi_bool_bool : kitB "bool" "bool" = some true := by decide +kernel
theorem isi_bool_str : kitB "bool" "str" = some false := by decide +kernel
theorem isi_bool_list : kitB "bool" "list" = some false := by decide +kernel
theorem isi_bool_tuple : kitB "bool" "tuple" = some false := by decide +kernel
theorem isi_str_int : kitB "str" "int" = some false := by decide +kernel
theorem isi_str_bool : kitB "str" "bool" = some false := by decide +kernel
theorem isi_str_str : kitB "str" "str" = some true := by decide +kernel
theorem isi_str_list : kitB "str" "list" = some false := by decide +kernel
theorem isi_str_tuple : kitB "str" "tuple" = some false := by decide +kernel
theorem isi_NoneType_int : kitB "NoneType" "int" = some false := by decide +kernel
theorem isi_NoneType_bool : kitB "NoneType" "bool" = some false := by decide +kernel
theorem isi_NoneType_str : kitB "NoneType" "str" = some false := by decide +kernel
theorem isi_NoneType_list : kitB "NoneType" "list" = some false := by decide +kernel
theorem isi_NoneType_tuple : kitB "NoneType" "tuple" = some false := by decide +kernel
theorem isi_list_int : kitB "list" "int" = some false := by decide +kernel
theorem isi_list_bool : kitB "list" "bool" = some false := by decide +kernel
theorem isi_list_str : kitB "list" "str" = some false := by decide +kernel
theorem isi_list_list : kitB "list" "list" = some true := by decide +kernel
theorem isi_list_tuple : kitB "list" "tuple" = some false := by decide +kernel
theorem isi_tuple_int : kitB "tuple" "int" = some false := by decide +kernel
theorem isi_tuple_bool : kitB "tuple" "bool" = some false := by decide +kernel
theorem isi_tuple_str : kitB "tuple" "str" = some false := by decide +kernel
theorem isi_tuple_list : kitB "tuple" "list" = some false := by decide +kernel
theorem isi_tuple_tuple : kitB "tuple" "tuple" = some true := by decide +kernel
/-! ### loops as functions -/
def iter {α : Type} (f : Nat → α → α) (s : α) : Nat → α
  | 0 => s
  | n + 1 => f n (iter f s n)
theorem iter_succ {α : Type} (f : Nat → α → α) (s : α) (n : Nat) : iter f s (n + 1) = f n (iter f s n) := rfl
theorem iter_ind {α : Type} {f : Nat → α → α} {s : α} (P : Nat → α → Prop) (h0 : P 0 s) : ∀ n : Nat, (∀ i x, i < n → P i x → P (i + 1) (f i x)) → P n (iter f s n)
  | 0, _ => h0
  | n + 1, h => h n _ (Nat.lt_succ_self n) (iter_ind P h0 n fun i x hi => h i x (Nat.lt_succ_of_lt hi))
def itl {α β : Type} (f : α → β → α) (s : α) (zs : List β) (i : Nat) : α := (zs.take i).foldl f s
theorem itl_zero {α β : Type} (f : α → β → α) (s : α) (zs : List β) : itl f s zs 0 = s := rfl
theorem itl_succ {α β : Type} {f : α → β → α} {s : α} {zs : List β} {i : Nat} {z : β} (h : zs[i]? = some z) : itl f s zs (i + 1) = f (itl f s zs i) z := by
  unfold itl
  rw [List.take_add_one, h, List.foldl_append]
  rfl
theorem itl_all {α β : Type} (f : α → β → α) (s : α) (zs : List β) : itl f s zs zs.length = zs.foldl f s := by
  unfold itl
  rw [List.take_length]
theorem own_rep {m n : Nat} (h : m = n) : Sl.own ((List.replicate m (0 : Int)).map PyData.int) = Sl.own ((List.replicate n 0).map .int) := by rw [h]
theorem dat_int {i j : Int} (h : i = j) : Sl.dat (.int i) = Sl.dat (.int j) := by rw [h]
/-! ### sizes of ints -/
def Sm (n : Nat) (x : Int) : Prop := x.natAbs < 2 ^ n
theorem Sm.mul {a b : Nat} {x y : Int} (hx : Sm a x) (hy : Sm b y) : Sm (a + b) (x * y) := by
  unfold Sm at *
  rw [Int.natAbs_mul, Nat.pow_add]
  exact Nat.mul_lt_mul'' hx hy
theorem Sm.up {a b : Nat} {x : Int} (hx : Sm a x) (h : a ≤ b) : Sm b x := Nat.lt_of_lt_of_le hx (Nat.pow_le_pow_right (by decide) h)
theorem Sm.add {a : Nat} {x y : Int} (hx : Sm a x) (hy : Sm a y) : Sm (a + 1) (x + y) := by
  unfold Sm at *
  have h := Int.natAbs_add_le x y
  rw [Nat.pow_succ]
  omega
theorem Sm.neg {a : Nat} {x : Int} (hx : Sm a x) : Sm a (-x) := by
  unfold Sm at *
  rw [Int.natAbs_neg]; exact hx
theorem Sm.of {n : Nat} {x : Int} {b : Int} (h : -b < x ∧ x < b) (hb : b ≤ 2 ^ n) : Sm n x := by
  unfold Sm
  have : (x.natAbs : Int) < ((2 ^ n : Nat) : Int) := by
    rw [Int.natCast_pow]
    show (x.natAbs : Int) < (2 : Int) ^ n
    omega
  exact Int.ofNat_lt.mp this
theorem Sm.mulW {a b : Nat} {x y : Int} (hx : Sm a x) (hy : Sm b y) (h : a + b < 999990) : CMulW x y :=
  wide_mul (a := a + 1) (b := b + 1) (hx.up (Nat.le_succ _)) (hy.up (Nat.le_succ _)) (by omega) (by omega) (by omega)
/-! ### equality of data, typed -/
theorem eqv_ints : ∀ (xs ys : List Int), PyData.eqvAll (xs.map .int) (ys.map .int) = decide (xs = ys)
  | [], [] => by simp [PyData.eqvAll]
  | x :: xs, [] => by simp [PyData.eqvAll]
  | [], y :: ys => by simp [PyData.eqvAll]
  | x :: xs, y :: ys => by
    rw [List.map_cons, List.map_cons, PyData.eqvAll, eqv_ints xs ys, PyData.eqv]
    by_cases h : x = y
    · subst h; simp
    · simp [h]
end
theorem lay_ints : ∀ (xs : List Int), PyData.canLayAll0 (xs.map .int) = true ∧ PyData.depthAll (xs.map .int) ≤ 1
  | [] => by simp [PyData.canLayAll0, PyData.depthAll]
  | x :: xs => by
    have ih := lay_ints xs
    simp only [List.map_cons, PyData.canLayAll0, PyData.depthAll, PyData.canLay0, PyData.depth, ih.1, Bool.and_self, true_and]
    omega
theorem shaped_ints (xs : List Int) : SeqAt.shaped (.list (xs.map .int)) = true := by
  have h := lay_ints xs
  unfold SeqAt.shaped
  rw [Bool.and_eq_true]
  refine ⟨by simp only [PyData.canLay0]; exact h.1, decide_eq_true ?_⟩
  simp only [PyData.depth]
  omega
end D3
namespace D3
open PySem PySem.Spec L2

/-! ### equality, shape of typed data -/
structure EqOk {α : Type} [DecidableEq α] (enc : α → PyData) : Prop where
  eq : ∀ x y : α, PyData.eqv (enc x) (enc y) = decide (x = y)
theorem eqI : EqOk PyData.int := ⟨fun x y => by rw [PyData.eqv]; rfl⟩
theorem eqB : EqOk PyData.bool := ⟨fun x y => by rw [PyData.eqv]; cases x <;> cases y <;> rfl⟩
theorem eqS : EqOk PyData.str := ⟨fun x y => by rw [PyData.eqv]; exact Bool.beq_eq_decide_eq x y⟩
theorem eqv_all {α : Type} [DecidableEq α] {enc : α → PyData} (h : EqOk enc) : ∀ (xs ys : List α), PyData.eqvAll (xs.map enc) (ys.map enc) = decide (xs = ys)
  | [], [] => by simp [PyData.eqvAll]
  | x :: xs, [] => by simp [PyData.eqvAll]
  | [], y :: ys => by simp [PyData.eqvAll]
  | x :: xs, y :: ys => by
    rw [List.map_cons, List.map_cons, PyData.eqvAll, eqv_all h xs ys, h.eq]
    by_cases e : x = y
    · subst e; simp
    · simp [e]
theorem eqL {α : Type} [DecidableEq α] {enc : α → PyData} (h : EqOk enc) : EqOk (eL enc) := ⟨fun x y => by
  show PyData.eqv (.list (x.map enc)) (.list (y.map enc)) = _
  rw [PyData.eqv]; exact eqv_all h x y⟩
theorem eqT2 {α β : Type} [DecidableEq α] [DecidableEq β] {f : α → PyData} {g : β → PyData} (h1 : EqOk f) (h2 : EqOk g) : EqOk (eT2 f g) := ⟨fun x y => by
  show PyData.eqv (.tuple [f x.1, g x.2]) (.tuple [f y.1, g y.2]) = _
  obtain ⟨a, b⟩ := x
  obtain ⟨c, d⟩ := y
  simp only [PyData.eqv, PyData.eqvAll, h1.eq, h2.eq, Bool.and_true]
  by_cases e : a = c <;> by_cases e2 : b = d <;> simp [e, e2]⟩
theorem eqT3 {α β γ : Type} [DecidableEq α] [DecidableEq β] [DecidableEq γ] {f : α → PyData} {g : β → PyData} {h : γ → PyData} (h1 : EqOk f) (h2 : EqOk g) (h3 : EqOk h) : EqOk (eT3 f g h) := ⟨fun x y => by
  show PyData.eqv (.tuple [f x.1, g x.2.1, h x.2.2]) (.tuple [f y.1, g y.2.1, h y.2.2]) = _
  obtain ⟨a, b, u⟩ := x
  obtain ⟨c, d, v⟩ := y
  simp only [PyData.eqv, PyData.eqvAll, h1.eq, h2.eq, h3.eq, Bool.and_true]
  by_cases e : a = c <;> by_cases e2 : b = d <;> by_cases e3 : u = v <;> simp [e, e2, e3]⟩
structure ShOk {α : Type} (enc : α → PyData) (n : Nat) : Prop where
  sh : ∀ x : α, (enc x).canLay0 = true ∧ (enc x).depth ≤ n
theorem shI : ShOk PyData.int 0 := ⟨fun x => by simp [PyData.canLay0, PyData.depth]⟩
theorem shB : ShOk PyData.bool 0 := ⟨fun x => by simp [PyData.canLay0, PyData.depth]⟩
theorem lay_all {α : Type} {enc : α → PyData} {n : Nat} (h : ShOk enc n) : ∀ (xs : List α), PyData.canLayAll0 (xs.map enc) = true ∧ PyData.depthAll (xs.map enc) ≤ n
  | [] => by simp [PyData.canLayAll0, PyData.depthAll]
  | x :: xs => by
    have ih := lay_all h xs
    have hx := h.sh x
    simp only [List.map_cons, PyData.canLayAll0, PyData.depthAll, hx.1, ih.1, Bool.and_self, true_and]
    omega
theorem shL {α : Type} {enc : α → PyData} {n : Nat} (h : ShOk enc n) : ShOk (eL enc) (n + 1) := ⟨fun x => by
  have := lay_all h x
  simp only [eL, PyData.canLay0, PyData.depth]
  exact ⟨this.1, by omega⟩⟩
theorem shT2 {α β : Type} {f : α → PyData} {g : β → PyData} {n m : Nat} (h1 : ShOk f n) (h2 : ShOk g m) : ShOk (eT2 f g) (max n m + 1) := ⟨fun x => by
  have a := h1.sh x.1
  have b := h2.sh x.2
  simp only [eT2, PyData.canLay0, PyData.depth, PyData.canLayAll0, PyData.depthAll, a.1, b.1, Bool.and_self, true_and]
  omega⟩
theorem shT3 {α β γ : Type} {f : α → PyData} {g : β → PyData} {h : γ → PyData} {n m k : Nat} (h1 : ShOk f n) (h2 : ShOk g m) (h3 : ShOk h k) : ShOk (eT3 f g h) (max n (max m k) + 1) := ⟨fun x => by
  have a := h1.sh x.1
  have b := h2.sh x.2.1
  have c := h3.sh x.2.2
  simp only [eT3, PyData.canLay0, PyData.depth, PyData.canLayAll0, PyData.depthAll, a.1, b.1, c.1, Bool.and_self, true_and]
  omega⟩
theorem ShOk.shaped {α : Type} {enc : α → PyData} {n : Nat} (h : ShOk enc n) (hn : n ≤ 64) (x : α) : SeqAt.shaped (enc x) = true := by
  unfold SeqAt.shaped
  rw [Bool.and_eq_true]
  exact ⟨(h.sh x).1, decide_eq_true (Nat.le_trans (h.sh x).2 hn)⟩

section
variable {X : Cx} {K : KF} {e a b c : Expr} {es : List Expr} {m m1 m2 m3 : Bool} {env : List Sl} {d d1 d2 : PyData} {ds ds1 ds2 : List PyData} {pos p p1 p2 p3 p4 : Pos} {x y : Str} {i j : Int} {E : DE} {st : Stmt} {rest : List Stmt} {ns : List Int}
theorem c_eqG {α : Type} [DecidableEq α] {enc : α → PyData} {u v : α} {n : Nat} (q : EqOk enc) (s : ShOk enc n) (hn : n ≤ 64) (hu : X.A.units + 64 < cLine) (ha : PE X a (tE X.K m1 env (enc u))) (hb : PE X b (tE X.K m2 env (enc v))) : (PE X (.Compare a [.Eq] [b] pos) (tE X.K m env (.bool (decide (u = v))))) ∧ PT X (.Compare a [.Eq] [b] pos) (tT X.K env (decide (u = v))) := by
  have h := c_eqD (pos := pos) (m := m) hu ha hb (s.shaped hn _) (s.shaped hn _)
  rwa [q.eq] at h
theorem c_neG {α : Type} [DecidableEq α] {enc : α → PyData} {u v : α} {n : Nat} (q : EqOk enc) (s : ShOk enc n) (hn : n ≤ 64) (hu : X.A.units + 64 < cLine) (ha : PE X a (tE X.K m1 env (enc u))) (hb : PE X b (tE X.K m2 env (enc v))) : (PE X (.Compare a [.NotEq] [b] pos) (tE X.K m env (.bool (!decide (u = v))))) ∧ PT X (.Compare a [.NotEq] [b] pos) (tT X.K env (!decide (u = v))) := by
  have h := c_neD (pos := pos) (m := m) hu ha hb (s.shaped hn _) (s.shaped hn _)
  rwa [q.eq] at h
/-- texts -/
theorem c_eqS {u v : Str} (ha : PE X a (tE K m1 env (.str u))) (hb : PE X b (tE K m2 env (.str v))) : (PE X (.Compare a [.Eq] [b] pos) (tE K m env (.bool (decide (u = v))))) ∧ PT X (.Compare a [.Eq] [b] pos) (tT K env (decide (u = v))) :=
  cmpE op_eq ha hb (nomark _) fun x y H Q hx hy q => by
    cases hx; cases hy
    refine ⟨rfl, ?_⟩
    have : decide (V.str u = V.str v) = decide (u = v) := by simp
    rw [this]; exact q
theorem c_neS {u v : Str} (ha : PE X a (tE K m1 env (.str u))) (hb : PE X b (tE K m2 env (.str v))) : (PE X (.Compare a [.NotEq] [b] pos) (tE K m env (.bool (!decide (u = v))))) ∧ PT X (.Compare a [.NotEq] [b] pos) (tT K env (!decide (u = v))) :=
  cmpE op_ne ha hb (nomark _) fun x y H Q hx hy q => by
    cases hx; cases hy
    refine ⟨rfl, ?_⟩
    have : decide (V.str u = V.str v) = decide (u = v) := by simp
    rw [this]; exact q
theorem o_nilG {α : Type} {enc : α → PyData} : PE X (.List [] pos) (tO X.K env (([] : List α).map enc)) := o_nil
theorem e_tup2 {α β : Type} {f : α → PyData} {g : β → PyData} {u : α} {v : β} {x1} (ha : PE X a (tE X.K true env (f u))) (hb : PE X b (tE X.K true env (g v))) (na : NS X a := by exact fun _ => rfl) (nb : NS X b := by exact fun _ => rfl) : PE X (.Tuple [a, b] x1 pos) (tE X.K m env (eT2 f g (u, v))) :=
  e_tup (a_cons ha (a_cons hb a_nil (nb [])) (na [b])) (by show 2 ≤ sizeLine; rw [sizeLine_eq]; omega)
theorem e_tup3 {α β γ : Type} {f : α → PyData} {g : β → PyData} {h : γ → PyData} {u : α} {v : β} {w : γ} {x1} (ha : PE X a (tE X.K true env (f u))) (hb : PE X b (tE X.K true env (g v))) (hc : PE X c (tE X.K true env (h w))) (na : NS X a := by exact fun _ => rfl) (nb : NS X b := by exact fun _ => rfl) (nc : NS X c := by exact fun _ => rfl) : PE X (.Tuple [a, b, c] x1 pos) (tE X.K m env (eT3 f g h (u, v, w))) :=
  e_tup (a_cons ha (a_cons hb (a_cons hc a_nil (nc [])) (nb [c])) (na [b, c])) (by show 3 ≤ sizeLine; rw [sizeLine_eq]; omega)

/-! ### new lists in a new list, thrown away after their change -/
structure OwnAll (K : KF) (H F' H' : Hp) (vs : List V) (dss : List (List PyData)) : Prop where
  len : vs.length = dss.length
  at_ : ∀ (i : Nat) (ds : List PyData), dss[i]? = some ds → ∃ p ws, vs[i]? = some (.ref p) ∧ H p = none ∧ F' p = none ∧ H' p = some (.lst ws) ∧ DqAll K F' ws ds
def tAO (K : KF) (env : List Sl) (dss : List (List PyData)) : TA := fun σ H Q => ∃ F0 H0 F, Ok K F0 H0 env σ F H ∧ ∀ vs F' H', Grow F H F' H' → OwnAll K H F' H' vs dss → Q vs H'
theorem ao_nil : PA X [] (tAO K env []) := pamono pa_nil fun σ H Q ⟨F0, H0, F, ok, q⟩ => q [] F H (Grow.refl ok.g.fh) ⟨rfl, fun i ds h => by simp at h⟩
theorem ao_cons {dss : List (List PyData)} (ha : PE X a (tO K env ds)) (hs : PA X es (tAO K env dss)) (hst : starEach (a :: es) X.env = (false, eval a X.env) :: starEach es X.env := by rfl) : PA X (a :: es) (tAO K env (ds :: dss)) :=
  pamono (pa_cons ha hs hst) fun σ H Q ⟨F0, H0, F, ok, q⟩ => ⟨F0, H0, F, ok, fun p ws F1 H1 g1 h1 h2 h3 h4 => ⟨F0, H0, F1, ok.grow g1, fun vs F2 H2 g2 o => q (.ref p :: vs) F2 H2 (g1.trans g2) ⟨by simp [o.len], fun i es hi => by
    cases i with
    | zero =>
      simp at hi; subst hi
      exact ⟨p, ws, rfl, h1, g2.old p h2 (by rw [h3]; simp), g2.hh _ _ h3, h4.up g2.ff⟩
    | succ i =>
      obtain ⟨r, us, a1, a2, a3, a4, a5⟩ := o.at_ i es (by simpa using hi)
      exact ⟨r, us, by simpa using a1, g1.hh.back a2, a3, a4, a5⟩⟩⟩⟩
theorem ao_consG {α : Type} {enc : α → PyData} {z : List α} {zs : List (List α)} (ha : PE X a (tO K env (z.map enc))) (hs : PA X es (tAO K env (zs.map (·.map enc)))) (hst : starEach (a :: es) X.env = (false, eval a X.env) :: starEach es X.env := by rfl) : PA X (a :: es) (tAO K env ((z :: zs).map (·.map enc))) := ao_cons ha hs hst
theorem ao_nilG {α : Type} {enc : α → PyData} : PA X [] (tAO K env (([] : List (List α)).map (·.map enc))) := ao_nil
/-- an object that is no data and in no slot changes -/
theorem Ok.junk {F0 H0 F H : Hp} {σ : St} {p : Addr} {o : HO} (ok : Ok K F0 H0 env σ F H) (hf : F p = none) (h0 : H0 p = none) (hn : ∀ (j : Nat) (es : List PyData), env[j]? = some (.own es) → σ[j]? ≠ some (some (.ref p))) : Ok K F0 H0 env σ F (upd H p o) :=
  ⟨ok.g.put h0 hf, ok.dat, fun j es he => by
    obtain ⟨q, vs, a1, a2, a3, a4, a5⟩ := ok.own j es he
    have hne : q ≠ p := fun z => by subst z; exact hn j es he a1
    exact ⟨q, vs, a1, a2, a3, by rw [upd_ne hne]; exact a4, a5⟩, ok.sep, ok.scr, ok.len⟩
theorem Ex.froze {F H : Hp} (e : Ex F H) : ∀ (ps : List Addr), (∀ p ∈ ps, F p = none) → (∀ p ∈ ps, ∃ o, H p = some o) → ∃ F', Ex F F' ∧ Ex F' H ∧ (∀ p ∈ ps, F' p = H p) ∧ ∀ a, F' a ≠ none → F a ≠ none ∨ a ∈ ps
  | [], _, _ => ⟨F, Ex.refl _, e, (fun p h => by cases h), fun a h => .inl h⟩
  | p :: ps, hf, hh => by
    obtain ⟨F', a, b, c, d⟩ := Ex.froze e ps (fun q hq => hf q (List.mem_cons_of_mem _ hq)) (fun q hq => hh q (List.mem_cons_of_mem _ hq))
    obtain ⟨o, ho⟩ := hh p (List.mem_cons_self ..)
    by_cases hp : F' p = none
    · refine ⟨upd F' p o, a.trans (Ex.new hp), b.at_ ho, fun q hq => ?_, fun r hr => ?_⟩
      · by_cases e1 : q = p
        · subst e1; rw [upd_same, ho]
        · rw [upd_ne e1]
          exact c q ((List.mem_cons.mp hq).resolve_left e1)
      · by_cases e1 : r = p
        · subst e1; exact .inr (List.mem_cons_self ..)
        · rw [upd_ne e1] at hr
          exact (d r hr).imp id (List.mem_cons_of_mem _)
    · have hp' : F' p = H p := by
        cases h1 : F' p with
        | none => exact absurd h1 hp
        | some u => rw [b p u h1]
      refine ⟨F', a, b, fun q hq => ?_, fun r hr => (d r hr).imp id (List.mem_cons_of_mem _)⟩
      rcases List.mem_cons.mp hq with rfl | hq
      · exact hp'
      · exact c q hq
theorem c_junk {i j : Nat} {dss : List (List PyData)} {test : Expr} {body : List Stmt} {told each : Str} {z : Const} {zn : Nat} {pt pe pl ps pif pf pit pa pc pz px : Pos} {zv : V} (hN : X.N.Nodup) (hp : PassesOwn (model X.prog X.w) X.A X.env X.xe) (hi : X.N[i]? = some told) (hj : X.N[j]? = some each) (hij : i ≠ j) (hil : i < env.length) (hjl : j < env.length)
    (ha : PA X es (tAO X.K env dss)) (hl : dss.length ≤ 1000 ∧ ∀ ds ∈ dss, ds.length ≤ 1000000)
    (ht : PT X test (tT X.K (env.set i (.dat (.list (dss.map .list)))) false)) (hz : PE X (.Constant z zn pz) (tC zv)) (hr : PSs X rest (tS X.K ((env.set i .no).set j .no) E))
    (hs1 : swapsWith (.List es pl) (some (.Name told pt)) ps.line X.env = pure false := by rfl)
    (hx1 : Loc X.env.scope told := by first | exact .inl rfl | exact .inr rfl) (hf1 : X.fn told = true ∨ X.env.scope.names.lookup told = some .local := by first | exact .inl rfl | exact .inr rfl)
    (hx2 : Loc X.env.scope each := by first | exact .inl rfl | exact .inr rfl) (hf2 : X.fn each = true ∨ X.env.scope.names.lookup each = some .local := by first | exact .inl rfl | exact .inr rfl)
    (hv1 : Vis X.env.scope told := by first | exact .inl rfl | exact .inr (.inl rfl) | exact .inr (.inr rfl)) (hv2 : Vis X.env.scope each := by first | exact .inl rfl | exact .inr (.inl rfl) | exact .inr (.inr rfl))
    (hd1 : (told == ("__debug__" : Str)) = false := by decide) (hcd1 : (told == ("__classdict__" : Str)) = false := by decide) (hd2 : (each == ("__debug__" : Str)) = false := by decide) (hcd2 : (each == ("__classdict__" : Str)) = false := by decide)
    (hc : X.calm = true := by rfl) (hs2 : ∀ x, foldedSetIterable (.Name told pit) X.env x = pure x := by intro _; rfl)
    (hbase : attributeBase (.Name each pe) "append" X.env (eval (.Name each pe) X.env) = eval (.Name each pe) X.env := by rfl) (hline : (pa.endLine == pc.line) = true := by rfl)
    (hs3 : swapsWith (.Call (.Attribute (.Name each pe) "append" pa) [.Constant z zn pz] [] pc) none px.line X.env = pure false := by rfl) :
    PSs X (.Assign [.Name told pt] (.List es pl) ps :: .If test body [] pif :: .For (.Name each p1) (.Name told pit) [.Expr (.Call (.Attribute (.Name each pe) "append" pa) [.Constant z zn pz] [] pc) px] [] pf :: rest) (tS X.K env E) := by
  have never : ∀ {sts : List Stmt}, PSs X sts (fun _ _ _ => False) := fun {sts} => ⟨fun _ _ _ _ _ _ h => h.elim⟩
  refine pssmono (pss_cons (ps_set hN hi hx1 (pe_lst ha) hs1 hf1) (pss_cons (ps_if ht never pss_nil) (pss_cons (ps_for hp hc (pi_list (pe_var hi hv1 hd1 hcd1)) (pg_name hN hj hx2 hf2)
    (pss_one (ps_expr (pe_bm (hline := hline) (hbase := hbase) PySem.F.plainAttrs_list PySem.F.slot_list_append PySem.F.type_list_append mt_append (pe_var hj hv2 hd2 hcd2) (pa_cons hz pa_nil)) hs3)) hs2) hr))) fun D σ H ⟨F0, H0, F, ok, ends⟩ => ?_
  refine ⟨F0, H0, F, ok, fun vs F1 H1 g1 o => ⟨?_, fun t ht1 => ?_⟩⟩
  · have := o.len
    have h3 : sizeLine = 16777216 := sizeLine_eq
    omega
  · -- the state behind the store
    have ok1 := ok.grow g1
    have ext : Ex H1 (upd H1 t (.lst vs)) := Ex.new ht1
    have ok2 : Ok X.K F0 H0 (env.set i .no) (σ.set i (some (.ref t))) F1 (upd H1 t (.lst vs)) := (ok1.grow (Grow.own g1.fh ht1)).setNo
    -- all of it frozen for the test
    have ownp : ∀ (k : Nat) (p : Addr), vs[k]? = some (.ref p) → H p = none ∧ F1 p = none ∧ ∃ ws, H1 p = some (.lst ws) ∧ ws.length ≤ 1000000 := fun k p hk => by
      have hlt : k < dss.length := by rw [← o.len]; exact (List.getElem?_eq_some_iff.mp hk).1
      obtain ⟨q, ws, a1, a2, a3, a4, a5⟩ := o.at_ k dss[k] (List.getElem?_eq_getElem hlt)
      rw [a1] at hk
      cases hk
      exact ⟨a2, a3, ws, a4, by rw [a5.length]; exact hl.2 _ (List.getElem_mem hlt)⟩
    have allref : ∀ (k : Nat) (v : V), vs[k]? = some v → ∃ p, v = .ref p := fun k v hk => by
      have hlt : k < dss.length := by rw [← o.len]; exact (List.getElem?_eq_some_iff.mp hk).1
      obtain ⟨q, ws, a1, _⟩ := o.at_ k dss[k] (List.getElem?_eq_getElem hlt)
      rw [a1] at hk; cases hk
      exact ⟨q, rfl⟩
    let ps : List Addr := t :: vs.filterMap fun v => match v with | .ref p => some p | _ => none
    have mem_ps : ∀ p, p ∈ ps ↔ p = t ∨ ∃ k : Nat, vs[k]? = some (.ref p) := fun p => by
      show p ∈ t :: _ ↔ _
      rw [List.mem_cons, List.mem_filterMap]
      constructor
      · rintro (h | ⟨v, hv, hq⟩)
        · exact .inl h
        · obtain ⟨k, hk⟩ := List.getElem?_of_mem hv
          obtain ⟨q, rfl⟩ := allref k v hk
          cases hq
          exact .inr ⟨k, hk⟩
      · rintro (h | ⟨k, hk⟩)
        · exact .inl h
        · exact .inr ⟨_, List.mem_of_getElem? hk, rfl⟩
    have f1t : F1 t = none := g1.fh.back ht1
    have tne : ∀ (k : Nat) (p : Addr), vs[k]? = some (.ref p) → p ≠ t := fun k p hk z => by
      obtain ⟨_, _, ws, h, _⟩ := ownp k p hk
      rw [z, ht1] at h; cases h
    obtain ⟨F2, x1, x2, x3, x4⟩ := Ex.froze (F := F1) (H := upd H1 t (.lst vs)) (g1.fh.trans ext) ps (fun p hp => by
        rcases (mem_ps p).mp hp with rfl | ⟨k, hk⟩
        · exact f1t
        · exact (ownp k p hk).2.1) (fun p hp => by
        rcases (mem_ps p).mp hp with rfl | ⟨k, hk⟩
        · exact ⟨_, upd_same⟩
        · obtain ⟨_, _, ws, h, _⟩ := ownp k p hk
          exact ⟨_, ext _ _ h⟩)
    have hpsH : ∀ p ∈ ps, H p = none := fun p hp => by
      rcases (mem_ps p).mp hp with rfl | ⟨k, hk⟩
      · exact g1.hh.back ht1
      · exact (ownp k p hk).1
    have g2 : Grow F H F2 (upd H1 t (.lst vs)) := ⟨g1.ff.trans x1, g1.hh.trans ext, x2, fun a h0 h1 => by
      cases h2 : F2 a with
      | none => rfl
      | some u =>
        rcases x4 a (by rw [h2]; simp) with h3 | h3
        · exact absurd (g1.old a h0 h1) h3
        · exact absurd (hpsH a h3) h1⟩
    have okT : Ok X.K F0 H0 (env.set i (.dat (.list (dss.map .list)))) (σ.set i (some (.ref t))) F2 (upd H1 t (.lst vs)) := by
      refine (ok.grow g2).setDat (.lst (by rw [x3 t ((mem_ps t).mpr (.inl rfl)), upd_same]) ?_)
      have build : ∀ (vs : List V) (dss : List (List PyData)), vs.length = dss.length → (∀ (k : Nat) ds, dss[k]? = some ds → ∃ p ws, vs[k]? = some (.ref p) ∧ F2 p = some (.lst ws) ∧ DqAll X.K F2 ws ds) → DqAll X.K F2 vs (dss.map .list) := by
        intro vs
        induction vs with
        | nil => intro dss hl _; cases dss with
          | nil => exact .nil
          | cons => cases hl
        | cons v vs ih => intro dss hl h; cases dss with
          | nil => cases hl
          | cons ds dss =>
            obtain ⟨p, ws, a1, a2, a3⟩ := h 0 ds rfl
            cases a1
            exact .cons (.lst a2 a3) (ih dss (by simpa using hl) fun k ds hk => by
              obtain ⟨p, ws, a1, a2⟩ := h (k + 1) ds (by simpa using hk)
              exact ⟨p, ws, by simpa using a1, a2⟩)
      refine build vs dss o.len fun k ds hk => ?_
      obtain ⟨p, ws, a1, a2, a3, a4, a5⟩ := o.at_ k ds hk
      exact ⟨p, ws, a1, by rw [x3 p ((mem_ps p).mpr (.inr ⟨k, a1⟩))]; exact ext _ _ a4, a5.up x1⟩
    refine ⟨F0, H0, F2, okT, fun F3 H3 g3 => ?_⟩
    -- behind the test: back to F1
    have h3t : H3 t = some (.lst vs) := g3.hh _ _ upd_same
    have ok3 : Ok X.K F0 H0 (env.set i .no) (σ.set i (some (.ref t))) F1 H3 := ok2.grow (Grow.junk ok2.g.fh g3.hh)
    have hiσ : i < σ.length := by rw [ok.len]; exact hil
    · have σi : (σ.set i (some (V.ref t)))[i]? = some (some (.ref t)) := List.getElem?_set_self hiσ
      refine ⟨.ref t, σi, t, rfl, ⟨vs, sqOf h3t⟩, ?_⟩
      have noown : ∀ p ∈ ps, ∀ (σ' : St), (∀ k, k ≠ i → k ≠ j → σ'[k]? = σ[k]?) → ∀ (k : Nat) (es : List PyData), ((env.set i Sl.no).set j Sl.no)[k]? = some (.own es) → σ'[k]? ≠ some (some (.ref p)) := fun p hp σ' hσ k es hk z => by
        rcases get_set_cases hk with ⟨_, _, q⟩ | ⟨ne, q⟩
        · cases q
        · rcases get_set_cases q with ⟨_, _, q⟩ | ⟨ne2, q⟩
          · cases q
          · rw [hσ k (Ne.symm ne2) (Ne.symm ne)] at z
            obtain ⟨p', ws, b1, b2, b3, b4, b5⟩ := ok.own k es q
            rw [z] at b1; cases b1
            rw [hpsH p hp] at b4; cases b4
      refine for_list (xs := vs) (fun n σ' H' => Ok X.K F0 H0 ((env.set i .no).set j .no) σ' F1 H' ∧ H' t = some (.lst vs) ∧ (∀ k, k ≠ j → σ'[k]? = (σ.set i (some (V.ref t)))[k]?) ∧ ∀ (k : Nat) (p : Addr), vs[k]? = some (.ref p) → ∃ ws, H' p = some (.lst ws) ∧ ws.length ≤ 1000000 + n)
        ⟨ok3.forget j, h3t, fun _ _ => rfl, fun k p hk => by
          obtain ⟨_, _, ws, h, hw⟩ := ownp k p hk
          exact ⟨ws, g3.hh _ _ (ext _ _ h), hw⟩⟩ (fun n σ' H' _ q => sqOf q.2.1) (fun n v σ' H' hv ⟨q1, q2, q3, q4⟩ => ?_) (fun σ' H' ⟨q1, _⟩ => ⟨F0, H0, F1, q1, ends⟩)
      obtain ⟨p, rfl⟩ := allref n v hv
      obtain ⟨ws, w1, w2⟩ := q4 n p hv
      have hnl : n < 1000 := by
        have := (List.getElem?_eq_some_iff.mp hv).1
        have := o.len
        omega
      have hjσ : j < σ'.length := by rw [q1.len]; simpa using hjl
      · have okn : Ok X.K F0 H0 ((env.set i .no).set j .no) (σ'.set j (some (.ref p))) F1 H' := by
          have := q1.setNo (i := j) (x := some (V.ref p))
          rwa [List.set_set] at this
        refine ⟨.ref p, List.getElem?_set_self hjσ, .inl ⟨rfl, _, .inl (.inl w1)⟩, p, ws, zv, rfl, rfl, w1, ?_, ?_⟩
        · have h3 : sizeLine = 16777216 := sizeLine_eq
          omega
        · refine ⟨okn.junk (ownp n p hv).2.1 (ok.g.hh.back (ownp n p hv).1) (noown p ((mem_ps p).mpr (.inr ⟨n, hv⟩)) _ fun k h1 h2 => ?_), ?_, fun k hk => ?_, fun k q hq => ?_⟩
          · rw [List.getElem?_set_ne (Ne.symm h2), q3 k h2, List.getElem?_set_ne (Ne.symm h1)]
          · rw [upd_ne (Ne.symm (tne n p hv))]; exact q2
          · rw [List.getElem?_set_ne (Ne.symm hk)]; exact q3 k hk
          · by_cases e1 : q = p
            · subst e1
              exact ⟨_, upd_same, by rw [List.length_append]; simp; omega⟩
            · obtain ⟨ws', w1', w2'⟩ := q4 k q hq
              exact ⟨ws', by rw [upd_ne e1]; exact w1', by omega⟩
theorem c_junkG {α : Type} {enc : α → PyData} {zss : List (List α)} {i j : Nat} {test : Expr} {body : List Stmt} {told each : Str} {z : Const} {zn : Nat} {pt pe pl ps pif pf pit pa pc pz px : Pos} {zv : V} (hN : X.N.Nodup) (hp : PassesOwn (model X.prog X.w) X.A X.env X.xe) (hi : X.N[i]? = some told) (hj : X.N[j]? = some each) (hij : i ≠ j) (hil : i < env.length) (hjl : j < env.length)
    (ha : PA X es (tAO X.K env (zss.map (·.map enc)))) (hl : zss.length ≤ 1000 ∧ ∀ ds ∈ zss, ds.length ≤ 1000000)
    (ht : PT X test (tT X.K (env.set i (.dat (eL (eL enc) zss))) false)) (hz : PE X (.Constant z zn pz) (tC zv)) (hr : PSs X rest (tS X.K ((env.set i .no).set j .no) E))
    (hs1 : swapsWith (.List es pl) (some (.Name told pt)) ps.line X.env = pure false := by rfl)
    (hx1 : Loc X.env.scope told := by first | exact .inl rfl | exact .inr rfl) (hf1 : X.fn told = true ∨ X.env.scope.names.lookup told = some .local := by first | exact .inl rfl | exact .inr rfl)
    (hx2 : Loc X.env.scope each := by first | exact .inl rfl | exact .inr rfl) (hf2 : X.fn each = true ∨ X.env.scope.names.lookup each = some .local := by first | exact .inl rfl | exact .inr rfl)
    (hv1 : Vis X.env.scope told := by first | exact .inl rfl | exact .inr (.inl rfl) | exact .inr (.inr rfl)) (hv2 : Vis X.env.scope each := by first | exact .inl rfl | exact .inr (.inl rfl) | exact .inr (.inr rfl))
    (hd1 : (told == ("__debug__" : Str)) = false := by decide) (hcd1 : (told == ("__classdict__" : Str)) = false := by decide) (hd2 : (each == ("__debug__" : Str)) = false := by decide) (hcd2 : (each == ("__classdict__" : Str)) = false := by decide)
    (hc : X.calm = true := by rfl) (hs2 : ∀ x, foldedSetIterable (.Name told pit) X.env x = pure x := by intro _; rfl)
    (hbase : attributeBase (.Name each pe) "append" X.env (eval (.Name each pe) X.env) = eval (.Name each pe) X.env := by rfl) (hline : (pa.endLine == pc.line) = true := by rfl)
    (hs3 : swapsWith (.Call (.Attribute (.Name each pe) "append" pa) [.Constant z zn pz] [] pc) none px.line X.env = pure false := by rfl) :
    PSs X (.Assign [.Name told pt] (.List es pl) ps :: .If test body [] pif :: .For (.Name each p1) (.Name told pit) [.Expr (.Call (.Attribute (.Name each pe) "append" pa) [.Constant z zn pz] [] pc) px] [] pf :: rest) (tS X.K env E) := 
  c_junk hN hp hi hj hij hil hjl ha ⟨by rw [List.length_map]; exact hl.1, fun ds hd => by
    obtain ⟨z, hz, rfl⟩ := List.mem_map.mp hd
    rw [List.length_map]; exact hl.2 z hz⟩ (by rw [List.map_map]; exact ht) hz hr hs1 hx1 hf1 hx2 hf2 hv1 hv2 hd1 hcd1 hd2 hcd2 hc hs2 hbase hline hs3
/-- if test: .. (never), then the rest -/
theorem c_ifF {k : Bool} {t1 : List Stmt} (hc : PT X c (tT K env k)) (hk : k = false) (h : PSs X rest (tS K env E)) : PSs X (.If c t1 [] pos :: rest) (tS K env E) :=
  s_then (s_if hc (fun z => by rw [hk] at z; cases z) (fun _ => s_nil rfl)) h
/-- the state, written otherwise -/
theorem s_env {env' : List Sl} {sts : List Stmt} (h : env = env') (k : PSs X sts (tS K env' E)) : PSs X sts (tS K env E) := h ▸ k
/-- a slot's value, forgotten but for what is known of it -/
theorem s_abs {α : Type} {enc : α → PyData} {z : α} {sts : List Stmt} (i : Nat) (he : env[i]? = some (.dat (enc z))) (P : α → Prop) (hz : P z) (h : ∀ z, P z → PSs X sts (tS K (env.set i (.dat (enc z))) E)) : PSs X sts (tS K env E) := by
  have e : env.set i (.dat (enc z)) = env := by
    obtain ⟨h1, h2⟩ := List.getElem?_eq_some_iff.mp he
    rw [← h2, List.set_getElem_self]
  have := h z hz
  rwa [e] at this
theorem s_appG {α : Type} {enc : α → PyData} {zs : List α} {z : α} (i : Nat) (ho : env[i]? = some (.own (zs.map enc))) (he : PE X e (tE X.K true env (enc z))) (hz : zs.length < sizeLine) (h : E.nx (env.set i (.own ((zs ++ [z]).map enc))))
    (hi : X.N[i]? = some x := by rfl) (hv : Vis X.env.scope x := by first | exact .inl rfl | exact .inr (.inl rfl) | exact .inr (.inr rfl))
    (hd : (x == ("__debug__" : Str)) = false := by decide) (hcd : (x == ("__classdict__" : Str)) = false := by decide) (na : NS X e := by exact fun _ => rfl)
    (hbase : attributeBase (.Name x p1) "append" X.env (eval (.Name x p1) X.env) = eval (.Name x p1) X.env := by rfl) (hline : (p2.endLine == p3.line) = true := by rfl)
    (hs : swapsWith (.Call (.Attribute (.Name x p1) "append" p2) [e] [] p3) none pos.line X.env = pure false := by rfl) : PS X (.Expr (.Call (.Attribute (.Name x p1) "append" p2) [e] [] p3) pos) (tS X.K env E) :=
  s_app i hi hv ho he (by rw [List.length_map]; exact hz) (by rw [List.map_append] at h; exact h) hd hcd na hbase hline hs
end
end D3
namespace W3
open PySem PySem.Spec L2 D3
abbrev St := L2.St
def topS (i : Nat) : Stmt := PySem.Challenge.pw_unsaidsizes_k00_polynomials.main.body.getD i (.Pass ⟨0, 0, 0, 0⟩)

/-! ### the mathematics -/
def isP (xs : List Int) : Bool := decide ((xs.length : Int) = 0) || !decide (xs.getLastD 0 = 0)
/-- the zeros at the end -/
def nz (xs : List Int) : Nat := (xs.reverse.takeWhile fun x => decide (x = 0)).length
def trim (xs : List Int) : List Int := xs.take (xs.length - nz xs)
theorem nz_le (xs : List Int) : nz xs ≤ xs.length := by
  unfold nz
  have h := (List.takeWhile_sublist (fun x : Int => decide (x = 0)) (l := xs.reverse)).length_le
  rw [List.length_reverse] at h
  exact h
theorem tw_at {α : Type} (p : α → Bool) : ∀ (l : List α) (i : Nat), i ≤ (l.takeWhile p).length → (i < (l.takeWhile p).length ↔ ∃ x, l[i]? = some x ∧ p x = true)
  | [], i, h => by simp
  | a :: l, i, h => by
    by_cases ha : p a = true
    · rw [List.takeWhile_cons_of_pos ha] at h ⊢
      cases i with
      | zero => simp [ha]
      | succ i =>
        have := tw_at p l i (by simpa using h)
        simpa using this
    · rw [List.takeWhile_cons_of_neg ha] at h ⊢
      have h0 : i = 0 := by simpa using h
      subst h0
      simp [ha]
theorem nz_test (xs : List Int) (i : Nat) (h : i ≤ nz xs) : (decide ((0 : Int) < ((xs.length - i : Nat) : Int)) && decide (xs.getD (((xs.length - i : Nat) : Int) - 1).toNat 0 = 0)) = decide (i < nz xs) := by
  have hn := nz_le xs
  have ht := tw_at (fun x : Int => decide (x = 0)) xs.reverse i h
  by_cases hi : i < xs.length
  · have e1 : (((xs.length - i : Nat) : Int) - 1).toNat = xs.length - 1 - i := by omega
    rw [e1]
    have e2 : xs.reverse[i]? = some (xs.getD (xs.length - 1 - i) 0) := by
      rw [List.getElem?_reverse hi, List.getD_eq_getElem?_getD, List.getElem?_eq_getElem (by omega)]
      rfl
    have e3 : decide ((0 : Int) < ((xs.length - i : Nat) : Int)) = true := decide_eq_true (by omega)
    rw [e3, Bool.true_and]
    have : (i < nz xs) ↔ xs.getD (xs.length - 1 - i) 0 = 0 := by
      unfold nz
      rw [ht, e2]
      simp
    simp only [this]
  · have e3 : decide ((0 : Int) < ((xs.length - i : Nat) : Int)) = false := decide_eq_false (by omega)
    rw [e3, Bool.false_and]
    exact (decide_eq_false (by omega)).symm
def val (xs : List Int) (a : Int) : Int := xs.reverse.foldl (fun t n => t * a + n) 0
def pl1 (xs : List Int) : Nat → List Int → List Int := fun k t => t.set k (xs.getD k 0)
def pl2 (ys : List Int) : Nat → List Int → List Int := fun k t => t.set k (t.getD k 0 + ys.getD k 0)
def mx (xs ys : List Int) : Nat := max xs.length ys.length
def plA (xs ys : List Int) : List Int := iter (pl1 xs) (List.replicate (mx xs ys) 0) xs.length
def plus (xs ys : List Int) : List Int := trim (iter (pl2 ys) (plA xs ys) ys.length)
theorem pl1_len (xs s : List Int) : ∀ n, (iter (pl1 xs) s n).length = s.length
  | 0 => rfl
  | n + 1 => by rw [iter_succ, pl1, List.length_set, pl1_len]
theorem pl2_len (xs s : List Int) : ∀ n, (iter (pl2 xs) s n).length = s.length
  | 0 => rfl
  | n + 1 => by rw [iter_succ, pl2, List.length_set, pl2_len]
def ti (xs ys : List Int) (k : Nat) : Nat → List Int → List Int := fun m t => t.set (k + m) (t.getD (k + m) 0 + xs.getD k 0 * ys.getD m 0)
def to (xs ys : List Int) : Nat → List Int → List Int := fun k t => iter (ti xs ys k) t ys.length
def times (xs ys : List Int) : List Int := if xs.length = 0 ∨ ys.length = 0 then [] else iter (to xs ys) (List.replicate (xs.length + ys.length - 1) 0) xs.length
theorem ti_len (xs ys s : List Int) (k : Nat) : ∀ n, (iter (ti xs ys k) s n).length = s.length
  | 0 => rfl
  | n + 1 => by rw [iter_succ, ti, List.length_set, ti_len]
theorem to_len (xs ys s : List Int) : ∀ n, (iter (to xs ys) s n).length = s.length
  | 0 => rfl
  | n + 1 => by rw [iter_succ, to, ti_len, to_len]
def scaled (xs : List Int) (n : Int) : List Int := if n = 0 then [] else xs.map fun x => n * x
def raised (xs : List Int) (k : Int) : List Int := if xs.length = 0 then [] else List.replicate k.toNat 0 ++ xs
def Sml (xs : List Int) : Prop := ∀ x ∈ xs, Sm 2000 x
theorem Sml.get {xs : List Int} (h : Sml xs) (k : Nat) : Sm 2000 (xs.getD k 0) := by
  rw [List.getD_eq_getElem?_getD]
  cases e : xs[k]? with
  | none => show Sm 2000 0; unfold Sm; exact Nat.two_pow_pos _
  | some x => exact h x (List.mem_of_getElem? e)

/-! the law's own defs -/
def absI (x : Int) : Int := if x < 0 then -x else x
def dg : Nat → List Int × Int → List Int × Int := fun _ s => if 0 < s.2 then (s.1 ++ [s.2 % 65536], s.2 / 65536) else s
def mixA (r : Int) (k : Nat) : Int := ((r * 48271 + ((k : Int) + 1) * 69621) % 2147483647 * 16807 + 11 * (k : Int) + 5) % 2147483629
def dstep (ns : List Int) : Nat → List Int → List Int := fun k ds =>
  if 10 ^ (18 : Int).toNat ≤ absI (ns.getD k 0) then (iter dg (ds, absI (ns.getD k 0)) 60).1
  else ds ++ [mixA (absI (ns.getD k 0)) k % 65536] ++ [mixA (absI (ns.getD k 0)) k / 65536 % 32768]
def draws (ns : List Int) : List Int := iter (dstep ns) [] (if (ns.length : Int) < 63 then (ns.length : Int) else 63).toNat
theorem dg_len (s : List Int × Int) : ∀ n, (iter dg s n).1.length ≤ s.1.length + n
  | 0 => Nat.le_refl _
  | n + 1 => by
    have ih := dg_len s n
    rw [iter_succ, dg]
    split
    · rw [List.length_append]; simp; omega
    · omega
theorem ds_len (ns : List Int) : ∀ n, (iter (dstep ns) [] n).length ≤ 60 * n
  | 0 => Nat.le_refl _
  | n + 1 => by
    have ih := ds_len ns n
    rw [iter_succ, dstep]
    split
    · have := dg_len (iter (dstep ns) [] n, absI (ns.getD n 0)) 60
      simp only at this
      omega
    · simp only [List.length_append, List.length_cons, List.length_nil]; omega
def lawAt (ds : List Int) (k m : Int) : Int := if k < ds.length then ds.getD k.toNat 0 % m else 0
theorem lawAt_bd (ds : List Int) (k m : Int) (h : 0 < m) : 0 ≤ lawAt ds k m ∧ lawAt ds k m < m := by
  unfold lawAt
  split
  · exact ⟨Int.emod_nonneg _ (by omega), Int.emod_lt_of_pos _ h⟩
  · omega
def num (ds : List Int) (k : Int) : Int :=
  if lawAt ds k 8 < 3 then lawAt ds (k + 1) 65536 / 2 % 4 - 1
  else if lawAt ds k 8 < 6 then lawAt ds (k + 1) 65536 / 2 % 2001 - 1000
  else if lawAt ds k 8 = 6 then (1 - 2 * (lawAt ds (k + 1) 65536 % 2)) * 10 ^ (30 : Int).toNat
  else (1 - 2 * (lawAt ds (k + 1) 65536 % 2)) * ((lawAt ds (k + 1) 65536 * 65537 + 12345) ^ (6 : Int).toNat % 10 ^ (30 : Int).toNat)
def lst (ns : List Int) : Nat → Int → Int := fun m l => if ns.getD m 0 = 0 then l else (m : Int) + 1
theorem lst_bd (ns : List Int) : ∀ n, 0 ≤ iter (lst ns) 0 n ∧ iter (lst ns) 0 n ≤ n
  | 0 => ⟨Int.le_refl _, Int.le_refl _⟩
  | n + 1 => by
    have ih := lst_bd ns n
    rw [iter_succ, lst]
    split <;> omega
/-- up to the last that is not 0 -/
def upto (ns : List Int) : List Int := ns.take (iter (lst ns) 0 ns.length).toNat
def polyN (ds : List Int) (k w : Int) : List Int := (List.range (lawAt ds k (w + 2)).toNat).map fun (m : Nat) => num ds (k + 1 + 2 * (m : Int))
def poly (ds : List Int) (k w : Int) : List Int := upto (polyN ds k w)
def zer (n : Int) : List Int := (List.range n.toNat).map fun _ => (0 : Int)
def lpA (xs ys : List Int) : List Int := iter (pl2 xs) (zer (max xs.length ys.length : Nat)) xs.length
def lpB (xs ys : List Int) : List Int := iter (pl2 ys) (lpA xs ys) ys.length
def lplus (xs ys : List Int) : List Int := upto (lpB xs ys)
theorem zer_len (n : Int) : (zer n).length = n.toNat := by simp [zer]
theorem lpB_len (xs ys : List Int) : (lpB xs ys).length = max xs.length ys.length := by
  unfold lpB lpA
  rw [pl2_len, pl2_len, zer_len]
  rfl
def ltI (xs ys : List Int) (k : Nat) : List Int := zer k ++ (if !decide (xs.getD k 0 = 0) then ys.map fun y => xs.getD k 0 * y else [])
def lt_ (xs ys : List Int) : Nat → List Int → List Int := fun k t => lplus t (ltI xs ys k)
def ltimes (xs ys : List Int) : List Int := iter (lt_ xs ys) [] xs.length
theorem ltI_len (xs ys : List Int) (k : Nat) : (ltI xs ys k).length ≤ k + ys.length := by
  unfold ltI
  rw [List.length_append, zer_len]
  split <;> simp
theorem upto_len (xs : List Int) : (upto xs).length ≤ xs.length := by
  unfold upto
  rw [List.length_take]
  omega
theorem lt_len (xs ys : List Int) : ∀ n, (iter (lt_ xs ys) [] n).length ≤ n + ys.length
  | 0 => by simp [iter]
  | n + 1 => by
    have ih := lt_len xs ys n
    have h1 := ltI_len xs ys n
    rw [iter_succ, lt_, lplus]
    have h2 := upto_len (lpB (iter (lt_ xs ys) [] n) (ltI xs ys n))
    rw [lpB_len] at h2
    omega
def lv (u : Int) : Int × Int → Int → Int × Int := fun s n => (s.1 + n * s.2, s.2 * u)
def lvalue (xs : List Int) (u : Int) : Int := (xs.foldl (lv u) (0, 1)).1
theorem lv_pow (u : Int) (hu : -1024 < u ∧ u < 1024) (xs : List Int) : ∀ i, i ≤ xs.length → Sm (10 * i + 1) (itl (lv u) (0, 1) xs i).2
  | 0, _ => by show Sm 1 1; unfold Sm; decide
  | i + 1, h => by
    have ih := lv_pow u hu xs i (by omega)
    rw [itl_succ (List.getElem?_eq_getElem (show i < xs.length by omega))]
    show Sm (10 * (i + 1) + 1) ((itl (lv u) (0, 1) xs i).2 * u)
    have hs : Sm 10 u := Sm.of (b := 1024) hu (by decide)
    exact (ih.mul hs).up (by omega)
def drawn (ds : List Int) (f : Int) : List Int :=
  if lawAt ds f 16 = 9 then ((List.range 40).map fun (k : Nat) => ((1 + lawAt ds (f + 1) 999) * (k : Int) * (k : Int) + (k : Int) / 3) % 2001 - 1000) ++ [1 - 2 * lawAt ds (f + 2) 2]
  else poly ds (f + 1) 5
/-! ### the law's mathematics -/
theorem g_nil (k : Nat) : ([] : List Int).getD k 0 = 0 := by simp
theorem g_out {xs : List Int} {k : Nat} (h : xs.length ≤ k) : xs.getD k 0 = 0 := by
  rw [List.getD_eq_getElem?_getD, List.getElem?_eq_none h]; rfl
theorem g_take (xs : List Int) (n k : Nat) : (xs.take n).getD k 0 = if k < n then xs.getD k 0 else 0 := by
  rw [List.getD_eq_getElem?_getD, List.getD_eq_getElem?_getD, List.getElem?_take]
  split <;> simp
theorem g_set (xs : List Int) (n k : Nat) (v : Int) : (xs.set n v).getD k 0 = if n = k ∧ n < xs.length then v else xs.getD k 0 := by
  rw [List.getD_eq_getElem?_getD, List.getD_eq_getElem?_getD, List.getElem?_set]
  by_cases h : n = k
  · subst h
    by_cases h2 : n < xs.length
    · simp [h2]
    · simp [h2, List.getElem?_eq_none (show xs.length ≤ n by omega)]
  · simp [h]
theorem g_rep (n k : Nat) : (List.replicate n (0 : Int)).getD k 0 = 0 := by
  rw [List.getD_eq_getElem?_getD, List.getElem?_replicate]
  split <;> rfl
theorem g_app (xs ys : List Int) (k : Nat) : (xs ++ ys).getD k 0 = if k < xs.length then xs.getD k 0 else ys.getD (k - xs.length) 0 := by
  rw [List.getD_eq_getElem?_getD, List.getD_eq_getElem?_getD, List.getD_eq_getElem?_getD, List.getElem?_append]
  split <;> rfl
theorem g_map (xs : List Int) (f : Int → Int) (h : f 0 = 0) (k : Nat) : (xs.map f).getD k 0 = f (xs.getD k 0) := by
  rw [List.getD_eq_getElem?_getD, List.getD_eq_getElem?_getD, List.getElem?_map]
  cases xs[k]? with
  | none => exact h.symm
  | some x => rfl
theorem zer_rep (n : Int) : zer n = List.replicate n.toNat 0 := by
  unfold zer
  rw [List.map_const', List.length_range]
theorem last_g (xs : List Int) : xs.getLastD 0 = xs.getD (xs.length - 1) 0 := by
  cases xs with
  | nil => rfl
  | cons a r =>
    rw [List.getLastD_cons, List.getD_eq_getElem?_getD, ← List.getLast?_eq_getElem?, List.getLast?_cons]
    cases r <;> simp
theorem isP_iff (xs : List Int) : isP xs = true ↔ xs = [] ∨ xs.getD (xs.length - 1) 0 ≠ 0 := by
  unfold isP
  rw [last_g, Bool.or_eq_true, decide_eq_true_eq, Bool.not_eq_true', decide_eq_false_iff_not]
  constructor
  · rintro (h | h)
    · exact .inl (List.length_eq_zero_iff.mp (by omega))
    · exact .inr h
  · rintro (h | h)
    · subst h; exact .inl rfl
    · exact .inr h
theorem isP_len {a b : List Int} (ha : isP a = true) (h : ∀ k, a.getD k 0 = b.getD k 0) : a.length ≤ b.length := by
  rcases (isP_iff a).mp ha with e | e
  · subst e; simp
  · by_cases hl : a.length ≤ b.length
    · exact hl
    · exact absurd ((h (a.length - 1)).trans (g_out (by omega))) e
theorem ext_g {a b : List Int} (hl : a.length = b.length) (h : ∀ k, a.getD k 0 = b.getD k 0) : a = b := by
  apply List.ext_getElem hl
  intro n h1 h2
  have := h n
  rw [List.getD_eq_getElem?_getD, List.getD_eq_getElem?_getD, List.getElem?_eq_getElem h1, List.getElem?_eq_getElem h2] at this
  exact this
/-- two polynomials with the same numbers are one -/
theorem uniq {a b : List Int} (ha : isP a = true) (hb : isP b = true) (h : ∀ k, a.getD k 0 = b.getD k 0) : a = b :=
  ext_g (Nat.le_antisymm (isP_len ha h) (isP_len hb fun k => (h k).symm)) h
theorem nz_zero (xs : List Int) (k : Nat) (h1 : xs.length - nz xs ≤ k) : xs.getD k 0 = 0 := by
  by_cases hk : k < xs.length
  · have hn := nz_le xs
    have ht := nz_test xs (xs.length - 1 - k) (by omega)
    rw [decide_eq_true (show xs.length - 1 - k < nz xs by omega), Bool.and_eq_true, decide_eq_true_eq, decide_eq_true_eq] at ht
    have e : (((xs.length - (xs.length - 1 - k) : Nat) : Int) - 1).toNat = k := by omega
    rw [e] at ht
    exact ht.2
  · exact g_out (by omega)
theorem trim_g (xs : List Int) (k : Nat) : (trim xs).getD k 0 = xs.getD k 0 := by
  unfold trim
  rw [g_take]
  split
  · rfl
  · exact (nz_zero xs k (by omega)).symm
theorem trim_P (xs : List Int) : isP (trim xs) = true := by
  rw [isP_iff]
  have hn := nz_le xs
  have hl : (trim xs).length = xs.length - nz xs := by unfold trim; rw [List.length_take]; omega
  by_cases h0 : xs.length - nz xs = 0
  · exact .inl (List.length_eq_zero_iff.mp (by omega))
  · right
    rw [trim_g, hl]
    have ht := nz_test xs (nz xs) (Nat.le_refl _)
    rw [decide_eq_false (Nat.lt_irrefl (nz xs)), decide_eq_true (show (0 : Int) < ((xs.length - nz xs : Nat) : Int) by omega), Bool.true_and, decide_eq_false_iff_not] at ht
    have e : (((xs.length - nz xs : Nat) : Int) - 1).toNat = xs.length - nz xs - 1 := by omega
    rw [e] at ht
    exact ht
theorem lst_zero (t : List Int) : ∀ n k, (iter (lst t) 0 n).toNat ≤ k → k < n → t.getD k 0 = 0
  | 0, k, _, h => absurd h (Nat.not_lt_zero _)
  | n + 1, k, h1, h2 => by
    rw [iter_succ, lst] at h1
    split at h1
    · rename_i h0
      by_cases hk : k = n
      · subst hk; exact h0
      · exact lst_zero t n k h1 (by omega)
    · omega
theorem lst_last (t : List Int) : ∀ n, iter (lst t) 0 n = 0 ∨ t.getD ((iter (lst t) 0 n).toNat - 1) 0 ≠ 0
  | 0 => .inl rfl
  | n + 1 => by
    rw [iter_succ, lst]
    split
    · exact lst_last t n
    · rename_i h
      right
      have e : ((n : Int) + 1).toNat - 1 = n := by omega
      rw [e]; exact h
theorem upto_g (t : List Int) (k : Nat) : (upto t).getD k 0 = t.getD k 0 := by
  unfold upto
  rw [g_take]
  split
  · rfl
  · by_cases hk : k < t.length
    · exact (lst_zero t _ k (by omega) hk).symm
    · exact (g_out (by omega)).symm
theorem upto_P (t : List Int) : isP (upto t) = true := by
  rw [isP_iff]
  have hb := lst_bd t t.length
  have hl : (upto t).length = (iter (lst t) 0 t.length).toNat := by unfold upto; rw [List.length_take]; omega
  rcases lst_last t t.length with h | h
  · exact .inl (List.length_eq_zero_iff.mp (by omega))
  · right
    rw [upto_g, hl]
    exact h
theorem pl2_g (ys s : List Int) (k : Nat) : ∀ n, (iter (pl2 ys) s n).getD k 0 = s.getD k 0 + if k < n ∧ k < s.length then ys.getD k 0 else 0
  | 0 => by simp [iter]
  | n + 1 => by
    rw [iter_succ, pl2, g_set, pl2_len, pl2_g ys s k n]
    by_cases h : n = k
    · subst h
      by_cases h2 : n < s.length
      · rw [if_pos ⟨rfl, h2⟩, pl2_g ys s n n, if_neg (by omega), if_pos ⟨by omega, h2⟩]; omega
      · rw [if_neg (by omega), if_neg (by omega), if_neg (by omega)]
    · rw [if_neg (by omega)]
      congr 1
      by_cases h3 : k < n ∧ k < s.length
      · rw [if_pos h3, if_pos ⟨by omega, h3.2⟩]
      · rw [if_neg h3, if_neg (by omega)]
theorem pl1_g (xs s : List Int) (k : Nat) : ∀ n, (iter (pl1 xs) s n).getD k 0 = if k < n ∧ k < s.length then xs.getD k 0 else s.getD k 0
  | 0 => by simp [iter]
  | n + 1 => by
    rw [iter_succ, pl1, g_set, pl1_len, pl1_g xs s k n]
    by_cases h : n = k
    · subst h
      by_cases h2 : n < s.length
      · rw [if_pos ⟨rfl, h2⟩, if_pos ⟨by omega, h2⟩]
      · rw [if_neg (by omega), if_neg (by omega), if_neg (by omega)]
    · rw [if_neg (by omega)]
      by_cases h3 : k < n ∧ k < s.length
      · rw [if_pos h3, if_pos ⟨by omega, h3.2⟩]
      · rw [if_neg h3, if_neg (by omega)]
theorem plA_g (xs ys : List Int) (k : Nat) : (plA xs ys).getD k 0 = xs.getD k 0 := by
  unfold plA
  rw [pl1_g, g_rep]
  by_cases h : k < xs.length
  · rw [if_pos ⟨h, by rw [List.length_replicate]; unfold mx; omega⟩]
  · rw [if_neg (by omega), g_out (by omega)]
theorem plus_g (xs ys : List Int) (k : Nat) : (plus xs ys).getD k 0 = xs.getD k 0 + ys.getD k 0 := by
  unfold plus
  rw [trim_g, pl2_g, plA_g]
  congr 1
  have hl : (plA xs ys).length = max xs.length ys.length := by unfold plA; rw [pl1_len, List.length_replicate]; rfl
  by_cases h : k < ys.length
  · rw [if_pos ⟨h, by omega⟩]
  · rw [if_neg (by omega), g_out (by omega)]
theorem plus_P (xs ys : List Int) : isP (plus xs ys) = true := trim_P _
theorem lplus_g (xs ys : List Int) (k : Nat) : (lplus xs ys).getD k 0 = xs.getD k 0 + ys.getD k 0 := by
  unfold lplus
  rw [upto_g]
  unfold lpB lpA
  rw [pl2_g, pl2_g, pl2_len, zer_rep, g_rep, List.length_replicate]
  have e : ((max xs.length ys.length : Nat) : Int).toNat = max xs.length ys.length := rfl
  rw [e, Int.zero_add]
  congr 1
  · by_cases h : k < xs.length
    · rw [if_pos ⟨h, by omega⟩]
    · rw [if_neg (by omega), g_out (by omega)]
  · by_cases h : k < ys.length
    · rw [if_pos ⟨h, by omega⟩]
    · rw [if_neg (by omega), g_out (by omega)]
theorem lplus_P (xs ys : List Int) : isP (lplus xs ys) = true := upto_P _
theorem lplus_eq (xs ys : List Int) : plus xs ys = lplus xs ys := uniq (plus_P _ _) (lplus_P _ _) fun k => by rw [plus_g, lplus_g]
/-- the numbers of a product -/
def cf (xs ys : List Int) (k : Nat) : Nat → Int
  | 0 => 0
  | n + 1 => cf xs ys k n + if n ≤ k then xs.getD n 0 * ys.getD (k - n) 0 else 0
theorem ti_g (xs ys s : List Int) (i k : Nat) (hs : i + ys.length ≤ s.length) : ∀ n, n ≤ ys.length → (iter (ti xs ys i) s n).getD k 0 = s.getD k 0 + if i ≤ k ∧ k < i + n then xs.getD i 0 * ys.getD (k - i) 0 else 0
  | 0, _ => by
    rw [if_neg (by omega)]
    exact (Int.add_zero _).symm
  | n + 1, hn => by
    rw [iter_succ, ti, g_set, ti_len]
    by_cases h : i + n = k
    · rw [if_pos ⟨h, by omega⟩, h, ti_g xs ys s i k hs n (by omega), if_neg (by omega), if_pos (by omega)]
      have e : k - i = n := by omega
      rw [e]; omega
    · rw [if_neg (by omega), ti_g xs ys s i k hs n (by omega)]
      congr 1
      by_cases h3 : i ≤ k ∧ k < i + n
      · rw [if_pos h3, if_pos (by omega)]
      · rw [if_neg h3, if_neg (by omega)]
theorem to_g (xs ys s : List Int) (k : Nat) (hs : s.length = xs.length + ys.length - 1) (hy : 0 < ys.length) (h0 : s.getD k 0 = 0) : ∀ n, n ≤ xs.length → (iter (to xs ys) s n).getD k 0 = cf xs ys k n
  | 0, _ => h0
  | n + 1, hn => by
    rw [iter_succ, to, ti_g xs ys _ n k (by rw [to_len]; omega) _ (Nat.le_refl _), to_g xs ys s k hs hy h0 n (by omega), cf]
    congr 1
    by_cases h : n ≤ k ∧ k < n + ys.length
    · rw [if_pos h, if_pos h.1]
    · rw [if_neg h]
      by_cases h2 : n ≤ k
      · rw [if_pos h2, g_out (show ys.length ≤ k - n by omega), Int.mul_zero]
      · rw [if_neg h2]
theorem times_g (xs ys : List Int) (k : Nat) : (times xs ys).getD k 0 = cf xs ys k xs.length := by
  unfold times
  split
  · rename_i h
    rw [g_nil]
    rcases h with h | h
    · rw [h]; rfl
    · have : ∀ n, cf xs ys k n = 0 := by
        intro n
        induction n with
        | zero => rfl
        | succ n ih =>
          rw [cf, ih, g_out (show ys.length ≤ k - n by omega), Int.mul_zero]
          split <;> rfl
      rw [this]
  · rename_i h
    exact to_g xs ys _ k (by rw [List.length_replicate]) (by omega) (g_rep _ _) _ (Nat.le_refl _)
theorem times_P (xs ys : List Int) (hx : isP xs = true) (hy : isP ys = true) : isP (times xs ys) = true := by
  by_cases h : xs.length = 0 ∨ ys.length = 0
  · unfold times; rw [if_pos h]; rfl
  · rw [isP_iff]
    right
    have hl : (times xs ys).length = xs.length + ys.length - 1 := by
      unfold times; rw [if_neg h, to_len, List.length_replicate]
    rw [times_g, hl]
    have hx' : xs.getD (xs.length - 1) 0 ≠ 0 := ((isP_iff xs).mp hx).resolve_left fun e => by subst e; simp at h
    have hy' : ys.getD (ys.length - 1) 0 ≠ 0 := ((isP_iff ys).mp hy).resolve_left fun e => by subst e; simp at h
    have z : ∀ n, n ≤ xs.length - 1 → cf xs ys (xs.length + ys.length - 1 - 1) n = 0 := by
      intro n
      induction n with
      | zero => intro _; rfl
      | succ n ih =>
        intro hn
        rw [cf, ih (by omega), if_pos (by omega), g_out (show ys.length ≤ xs.length + ys.length - 1 - 1 - n by omega), Int.mul_zero]; rfl
    obtain ⟨m, hm⟩ : ∃ m, xs.length = m + 1 := ⟨xs.length - 1, by omega⟩
    rw [hm] at hx' z ⊢
    rw [cf, z m (by omega), if_pos (by omega)]
    have e : m + 1 + ys.length - 1 - 1 - m = ys.length - 1 := by omega
    rw [e, Int.zero_add]
    exact Int.mul_ne_zero hx' hy'
theorem lt_g (xs ys : List Int) (k : Nat) : ∀ n, (iter (lt_ xs ys) [] n).getD k 0 = cf xs ys k n
  | 0 => g_nil k
  | n + 1 => by
    rw [iter_succ, lt_, lplus_g, lt_g xs ys k n, cf]
    congr 1
    unfold ltI
    rw [g_app, zer_rep, g_rep, List.length_replicate, Int.toNat_natCast]
    by_cases h : n ≤ k
    · rw [if_neg (by omega), if_pos h]
      by_cases hz : xs.getD n 0 = 0
      · rw [decide_eq_true hz, Bool.not_true, if_neg Bool.false_ne_true, g_nil, hz, Int.zero_mul]
      · rw [decide_eq_false hz, Bool.not_false, if_pos rfl, g_map _ _ (Int.mul_zero _)]
    · rw [if_pos (by omega), if_neg h]
theorem lt_P (xs ys : List Int) : ∀ n, isP (iter (lt_ xs ys) [] n) = true
  | 0 => rfl
  | n + 1 => by rw [iter_succ, lt_]; exact lplus_P _ _
theorem ltimes_eq (xs ys : List Int) (hx : isP xs = true) (hy : isP ys = true) : times xs ys = ltimes xs ys := uniq (times_P _ _ hx hy) (lt_P _ _ _) fun k => by rw [times_g]; exact (lt_g xs ys k _).symm
theorem scaled_P (xs : List Int) (n : Int) (hx : isP xs = true) : isP (scaled xs n) = true := by
  unfold scaled
  split
  · rfl
  · rename_i h
    rw [isP_iff] at hx ⊢
    rcases hx with e | e
    · subst e; exact .inl rfl
    · right
      rw [g_map _ _ (Int.mul_zero _), List.length_map]
      exact Int.mul_ne_zero h e
theorem raised_P (xs : List Int) (n : Int) (hx : isP xs = true) : isP (raised xs n) = true := by
  unfold raised
  split
  · rfl
  · rename_i h
    rw [isP_iff] at hx ⊢
    right
    rw [g_app, List.length_append, List.length_replicate, if_neg (by omega)]
    have e : n.toNat + xs.length - 1 - n.toNat = xs.length - 1 := by omega
    rw [e]
    exact hx.resolve_left fun e => by subst e; simp at h
theorem val_cons (x : Int) (r : List Int) (u : Int) : val (x :: r) u = val r u * u + x := by
  unfold val
  rw [List.reverse_cons, List.foldl_append]
  rfl
theorem lv_fold (u : Int) : ∀ (xs : List Int) (s p : Int), (xs.foldl (lv u) (s, p)).1 = s + p * val xs u
  | [], s, p => by show s = s + p * 0; omega
  | x :: r, s, p => by
    rw [List.foldl_cons, lv, lv_fold u r, val_cons]
    simp only
    rw [Int.mul_add, Int.add_assoc, Int.add_comm (x * p), Int.mul_comm x p, Int.mul_assoc p u, Int.mul_comm u]
theorem lvalue_eq (xs : List Int) (u : Int) : lvalue xs u = val xs u := by
  unfold lvalue
  rw [lv_fold]; omega
theorem short_eq (t : List Int) : lplus t [] = trim t := uniq (lplus_P _ _) (trim_P _) fun k => by rw [lplus_g, trim_g, g_nil]; omega
theorem isP_trim (t : List Int) : isP t = decide (t = trim t) := by
  by_cases h : isP t = true
  · rw [h]
    exact (decide_eq_true (uniq h (trim_P t) fun k => (trim_g t k).symm)).symm
  · have h' : isP t = false := by simpa using h
    rw [h']
    exact (decide_eq_false fun e => h (by rw [e]; exact trim_P t)).symm
theorem num_sm (ds : List Int) (k : Int) : Sm 2000 (num ds k) := by
  have hp : ((10 : Int) ^ (30 : Int).toNat) = 1000000000000000000000000000000 := by decide
  have h1 := lawAt_bd ds (k + 1) 65536 (by decide)
  have hb : -1000000000000000000000000000001 < num ds k ∧ num ds k < 1000000000000000000000000000001 := by
    unfold num
    rw [hp]
    split
    · omega
    · split
      · omega
      · split
        · omega
        · have h2 := Int.emod_nonneg ((lawAt ds (k + 1) 65536 * 65537 + 12345) ^ (6 : Int).toNat) (show (1000000000000000000000000000000 : Int) ≠ 0 by decide)
          have h3 := Int.emod_lt_of_pos ((lawAt ds (k + 1) 65536 * 65537 + 12345) ^ (6 : Int).toNat) (show (0 : Int) < 1000000000000000000000000000000 by decide)
          rcases Int.emod_two_eq (lawAt ds (k + 1) 65536) with e | e <;> rw [e] <;> omega
  exact (Sm.of (n := 110) hb (by decide)).up (by decide)
theorem upto_sub (t : List Int) : ∀ x ∈ upto t, x ∈ t := fun x h => List.mem_of_mem_take h
theorem drawn_ok (ds : List Int) (f : Int) (hf : 0 ≤ f) : (drawn ds f).length ≤ 41 ∧ Sml (drawn ds f) ∧ isP (drawn ds f) = true := by
  unfold drawn
  split
  · refine ⟨by simp, fun x hx => ?_, ?_⟩
    · rcases List.mem_append.mp hx with h | h
      · obtain ⟨k, hk, rfl⟩ := List.mem_map.mp h
        exact (Sm.of (n := 20) (b := 2001) (by omega) (by decide)).up (by decide)
      · have := lawAt_bd ds (f + 2) 2 (by decide)
        rw [List.mem_singleton] at h
        subst h
        exact (Sm.of (n := 20) (b := 2001) (by omega) (by decide)).up (by decide)
    · rw [isP_iff]
      right
      have := lawAt_bd ds (f + 2) 2 (by decide)
      rw [g_app]
      simp
      omega
  · have hc := lawAt_bd ds (f + 1) (5 + 2) (by decide)
    have hl : (polyN ds (f + 1) 5).length ≤ 7 := by unfold polyN; rw [List.length_map, List.length_range]; omega
    refine ⟨Nat.le_trans (upto_len _) (by omega), fun x hx => ?_, upto_P _⟩
    obtain ⟨m, hm, rfl⟩ := List.mem_map.mp (upto_sub _ x hx)
    exact num_sm _ _
theorem trim_len (t : List Int) : (trim t).length ≤ t.length := by unfold trim; rw [List.length_take]; omega
theorem told_len {O W : List Int} {n p : Int} (l1 : O.length ≤ 41) (l2 : W.length ≤ 41) (hp : 0 ≤ p ∧ p < 41) : ∀ z ∈ [plus O W, times O W, scaled O n, raised O p], z.length ≤ 1000 := by
  intro z hz
  simp only [List.mem_cons, List.not_mem_nil, or_false] at hz
  rcases hz with rfl | rfl | rfl | rfl
  · rw [lplus_eq]
    refine Nat.le_trans (upto_len _) ?_
    rw [lpB_len]; omega
  · unfold times
    split
    · simp
    · rw [to_len, List.length_replicate]; omega
  · unfold scaled
    split
    · simp
    · rw [List.length_map]; omega
  · unfold raised
    split
    · simp
    · rw [List.length_append, List.length_replicate]; omega
theorem told_eq {O W : List Int} {n p : Int} (hx : isP O = true) (hy : isP W = true) : [plus O W, times O W, scaled O n, raised O p] = [lplus O W, ltimes O W, if (!decide (n = 0)) = true then O.map (fun z => n * z) else []] ++ [(List.range (p * if (!decide (O = [])) = true then 1 else 0).toNat).map (fun _ => (0 : Int)) ++ O] := by
  have e3 : scaled O n = if (!decide (n = 0)) = true then O.map (fun z => n * z) else [] := by
    unfold scaled
    by_cases h : n = 0 <;> simp [h]
  have e4 : raised O p = (List.range (p * if (!decide (O = [])) = true then 1 else 0).toNat).map (fun _ => (0 : Int)) ++ O := by
    unfold raised
    by_cases h : O = []
    · subst h; simp
    · have h2 : ¬ O.length = 0 := fun e => h (List.length_eq_zero_iff.mp e)
      rw [if_neg h2, decide_eq_false h, Bool.not_false, if_pos rfl, Int.mul_one, List.map_const', List.length_range]
  rw [lplus_eq, ltimes_eq O W hx hy, e3, e4]
  rfl
theorem told_P {O W : List Int} {n p : Int} (hx : isP O = true) (hy : isP W = true) : (([plus O W, times O W, scaled O n, raised O p].map fun z => isP z).all id) = true := by
  simp [plus_P, times_P _ _ hx hy, scaled_P _ _ hx, raised_P _ _ hx]
end W3
namespace W3
open PySem PySem.Spec L2 D3
local macro_rules | `(tactic| walk_at "d3") => `(tactic| first | omega | rfl | decide | assumption | (split <;> omega) | (simp only [decide_eq_true_eq, decide_eq_false_iff_not, Bool.not_eq_true', Bool.and_eq_true, Bool.or_eq_false_iff, Bool.not_eq_false', List.length_map] at *; first | omega | assumption))
local macro_rules | `(tactic| walk_at "len") => `(tactic| first | (have hsz := PySem.sizeLine_eq; (try simp only [List.length_cons, List.length_nil, List.length_map, List.length_append, List.length_replicate, List.length_take, List.length_drop, List.length_range] at *); first | omega | (split <;> (try simp only [List.length_map, List.length_nil]) <;> omega)) | decide)
local macro_rules | `(tactic| walk_at "app") => `(tactic| first | (have hsz := PySem.sizeLine_eq; (try simp only [List.length_cons, List.length_nil, List.length_map, List.length_append, List.length_replicate] at *); omega) | decide)
local macro_rules | `(tactic| walk_at "ne") => `(tactic| (intro hnil; subst hnil; simp at *))
local macro_rules | `(tactic| walk_at "ix") => `(tactic| ((try simp only [decide_eq_true_eq, decide_eq_false_iff_not, Bool.not_eq_true', Bool.and_eq_true, Bool.or_eq_false_iff, Bool.not_eq_false', List.length_map, List.length_replicate, List.length_set] at *); omega))
local macro_rules | `(tactic| walk_at "RET") => `(tactic| rfl)
local macro_rules | `(tactic| walk_at "start") => `(tactic| first | rfl | exact own_rep (by omega) | exact dat_int (by omega))
local macro_rules | `(tactic| walk_at "step") => `(tactic| first | rfl | exact dat_int (by omega) | (show Sl.own _ = Sl.own _; rw [iter_succ]; exact congrArg Sl.own setMap))
local macro_rules | `(tactic| walk_at "PRE") => `(tactic| first | assumption | omega | (constructor <;> omega))
local macro_rules | `(tactic| walk_at "hb") => `(tactic| skip)
local macro_rules | `(tactic| walk_at "mul") => `(tactic| assumption)
local macro_rules | `(tactic| walk_at "shape") => `(tactic| first | exact shaped_ints _ | decide)
local macro_rules | `(tactic| walk_at "IFS") => `(tactic| ((try simp only [decide_eq_true_eq, decide_eq_false_iff_not, Bool.not_eq_true', Bool.and_eq_true, Bool.or_eq_false_iff, Bool.not_eq_false', Bool.or_eq_true] at *); first | (simp only [*, if_true, if_false]; done) | (simp [*]; done)))
local macro_rules | `(tactic| walk_at "scal") => `(tactic| simp [List.all_eq_true, scalD])
local macro_rules | `(tactic| walk_at "mulS") => `(tactic| first | exact .inl (by assumption) | exact .inr (by assumption) | (unfold CMul; omega))
/-! ### is_polynomial -/
abbrev s_is_polynomial : Stmt := topS 1
theorem sc_is_polynomial : FnScope ["numbers"] ["numbers"] (defScope s_is_polynomial) := ⟨rfl, rfl, rfl, by decide +kernel, rfl, by decide +kernel, by decide +kernel⟩
def R_is_polynomial (dd : List PyData) (r : RS) : Prop := ∃ (xs : (List Int)), dd = [((eL PyData.int) xs)] ∧ r = .dat (.bool (isP xs))
theorem ok_is_polynomial {P : Program} {w : World} {K : KF} {mg : Str → Option Value} {base : Heap} {k : Nat} (B : Bt mg) (a : At K mg "is_polynomial" s_is_polynomial ["numbers"]) : Def P w K mg base (k + 1) "is_polynomial" (spD K 1 R_is_polynomial) := by
  have nd := sc_is_polynomial.nd
  refine a.def fun f fd F => def_ok F sc_is_polynomial fun cdv A outer s H E ds r hr hl hR => ?_
  obtain ⟨xs, rfl, rfl⟩ := hR
  show PSs _ _ (tS K [.dat ((eL PyData.int) xs)] _)
  exact s_last (s_ret (e_or (c_eqI (e_lenG (enc := PyData.int) B.len (l_e (dv 0 rfl))) e_int).1 (fun hq => (e_one (c_neI (e_ixZ (l_e (dv 0 rfl)) (e_neg e_int) (by walk_at "ne")) e_int).1))) (by walk_at "RET"))
/-! ### trimmed -/
abbrev s_trimmed : Stmt := topS 2
theorem sc_trimmed : FnScope ["numbers", "size"] ["numbers"] (defScope s_trimmed) := ⟨rfl, rfl, rfl, by decide +kernel, rfl, by decide +kernel, by decide +kernel⟩
def R_trimmed (dd : List PyData) (r : RS) : Prop := ∃ (xs : (List Int)), dd = [((eL PyData.int) xs)] ∧ r = .own ((trim xs).map PyData.int)
theorem ok_trimmed {P : Program} {w : World} {K : KF} {mg : Str → Option Value} {base : Heap} {k : Nat} (B : Bt mg) (a : At K mg "trimmed" s_trimmed ["numbers"]) : Def P w K mg base (k + 1) "trimmed" (spD K 1 R_trimmed) := by
  have nd := sc_trimmed.nd
  refine a.def fun f fd F => def_ok F sc_trimmed fun cdv A outer s H E ds r hr hl hR => ?_
  obtain ⟨xs, rfl, rfl⟩ := hR
  show PSs _ _ (tS K [.dat ((eL PyData.int) xs), .no] _)
  refine s_then (s_set 1 nd rfl (e_lenG (enc := PyData.int) B.len (l_e (dv 0 rfl))) rfl) ?_
  refine s_env (env' := [_, _]) rfl ?_
  refine c_while (fun i => [(1, .dat (.int ((xs.length - i : Nat) : Int)))]) (fun i => decide (i < nz xs)) (nz xs) PassesOwn.never ⟨.inr rfl, ⟨.inr (by
          walk_at "start"), trivial⟩⟩ (fun i hi => ?_) ?_ (fun i hi => ?_) (fun i hi => ?_) ?_
  · exact decide_eq_true hi
  · exact decide_eq_false (Nat.lt_irrefl _)
  · refine t_eq (t_w (w_and (c_gt (m := true) (dv 1 rfl) e_int).2 (fun hq => (w_one (c_eqI (m := true) (e_ixI (l_e (dv 0 rfl)) (e_sub (dv 1 rfl) e_int) (by walk_at "ix")) e_int).2)))) ?_
    exact nz_test xs i hi
  · have hz := nz_le xs
    refine s_then (s_set 1 nd rfl (e_sub (dv 1 rfl) e_int) rfl) ?_
    refine s_env (env' := [_, _]) rfl ?_
    refine s_nil ⟨.inr rfl, ⟨.inr (by
            walk_at "step"), trivial⟩⟩
  have hz := nz_le xs
  exact s_last (s_retO (o_listOf B.list (l_o (o_to (enc := PyData.int) (l_e (dv 0 rfl)) (dv 1 rfl) (by walk_at "d3")))) (by walk_at "RET"))
/-! ### degree -/
abbrev s_degree : Stmt := topS 3
theorem sc_degree : FnScope ["one"] ["one"] (defScope s_degree) := ⟨rfl, rfl, rfl, by decide +kernel, rfl, by decide +kernel, by decide +kernel⟩
def R_degree (dd : List PyData) (r : RS) : Prop := ∃ (xs : (List Int)), dd = [((eL PyData.int) xs)] ∧ r = .dat (.int ((fun xs : List Int => (xs.length : Int) - 1) xs))
theorem ok_degree {P : Program} {w : World} {K : KF} {mg : Str → Option Value} {base : Heap} {k : Nat} (B : Bt mg) (a : At K mg "degree" s_degree ["one"]) : Def P w K mg base (k + 1) "degree" (spD K 1 R_degree) := by
  have nd := sc_degree.nd
  refine a.def fun f fd F => def_ok F sc_degree fun cdv A outer s H E ds r hr hl hR => ?_
  obtain ⟨xs, rfl, rfl⟩ := hR
  show PSs _ _ (tS K [.dat ((eL PyData.int) xs)] _)
  exact s_last (s_ret (e_sub (e_lenG (enc := PyData.int) B.len (l_e (dv 0 rfl))) e_int) (by walk_at "RET"))
/-! ### value -/
abbrev s_value : Stmt := topS 4
theorem sc_value : FnScope ["one", "at", "total", "number"] ["one", "at"] (defScope s_value) := ⟨rfl, rfl, rfl, by decide +kernel, rfl, by decide +kernel, by decide +kernel⟩
def R_value (dd : List PyData) (r : RS) : Prop := ∃ (xs : (List Int)) (u : Int), dd = [((eL PyData.int) xs), (.int u)] ∧ (-(2 ^ 64) < u ∧ u < 2 ^ 64) ∧ r = .dat (.int (val xs u))
theorem ok_value {P : Program} {w : World} {K : KF} {mg : Str → Option Value} {base : Heap} {k : Nat} (B : Bt mg) (a : At K mg "value" s_value ["one", "at"]) : Def P w K mg base (k + 1) "value" (spD K 2 R_value) := by
  have nd := sc_value.nd
  refine a.def fun f fd F => def_ok F sc_value fun cdv A outer s H E ds r hr hl hR => ?_
  obtain ⟨xs, u, rfl, hp1, rfl⟩ := hR
  show PSs _ _ (tS K [.dat ((eL PyData.int) xs), .dat (.int u), .no, .no] _)
  refine s_then (s_set 2 nd rfl e_int rfl) ?_
  refine s_env (env' := [_, _, _, _]) rfl ?_
  refine c_forL (enc := PyData.int) (j := 3) (fun i => [(2, .dat (.int (itl (fun t n => t * u + n) 0 xs.reverse i))), (3, .no)]) PassesOwn.never (e_o (o_revG (enc := PyData.int) (l_e (dv 0 rfl)))) nd rfl ⟨.inr rfl, ⟨.inr rfl, ⟨.inr (by
          walk_at "start"), ⟨.inl rfl, trivial⟩⟩⟩⟩ (fun i1 z1 hz1 => ?_) ?_
  · skip
    refine s_env (env' := [_, _, _, _]) rfl ?_
    refine s_then (s_set 2 nd rfl (e_add (e_mulS (dv 2 rfl) (dv 1 rfl) (by walk_at "mulS")) (dv 3 rfl)) rfl) ?_
    refine s_env (env' := [_, _, _, _]) rfl ?_
    refine s_nil ⟨.inr rfl, ⟨.inr rfl, ⟨.inr (by
            rw [itl_succ hz1]), ⟨.inl rfl, trivial⟩⟩⟩⟩
  refine s_env (env' := [_, _, _, _]) rfl ?_
  rw [itl_all]
  exact s_last (s_ret (dv 2 rfl) (by walk_at "RET"))
/-! ### plus -/
abbrev s_plus : Stmt := topS 5
theorem sc_plus : FnScope ["one", "two", "size", "total", "k"] ["one", "two"] (defScope s_plus) := ⟨rfl, rfl, rfl, by decide +kernel, rfl, by decide +kernel, by decide +kernel⟩
def R_plus (dd : List PyData) (r : RS) : Prop := ∃ (xs : (List Int)) (ys : (List Int)), dd = [((eL PyData.int) xs), ((eL PyData.int) ys)] ∧ (xs.length ≤ 100000 ∧ ys.length ≤ 100000) ∧ r = .own ((plus xs ys).map PyData.int)
theorem ok_plus {P : Program} {w : World} {K : KF} {mg : Str → Option Value} {base : Heap} {k : Nat} (B : Bt mg) (D_trimmed : Def P w K mg base k "trimmed" (spD K 1 R_trimmed)) (a : At K mg "plus" s_plus ["one", "two"]) : Def P w K mg base (k + 1) "plus" (spD K 2 R_plus) := by
  have nd := sc_plus.nd
  refine a.def fun f fd F => def_ok F sc_plus fun cdv A outer s H E ds r hr hl hR => ?_
  obtain ⟨xs, ys, rfl, hp1, rfl⟩ := hR
  show PSs _ _ (tS K [.dat ((eL PyData.int) xs), .dat ((eL PyData.int) ys), .no, .no, .no] _)
  refine s_then (s_set 2 nd rfl (e_max2n B.max (e_lenG (enc := PyData.int) B.len (l_e (dv 0 rfl))) (e_lenG (enc := PyData.int) B.len (l_e (dv 1 rfl)))) rfl) ?_
  refine s_env (env' := [_, _, _, _, _]) rfl ?_
  refine s_then (s_setO 3 nd rfl (o_rep1 e_int (dv 2 rfl) (by walk_at "d3") (by walk_at "d3") (by walk_at "len")) rfl) ?_
  refine s_env (env' := [_, _, _, _, _]) rfl ?_
  refine c_forRN (j := 4) (fun i => [(3, .own (dI (iter (pl1 xs) (List.replicate (mx xs ys) 0) i))), (4, .no)]) PassesOwn.never B.range (e_lenG (enc := PyData.int) B.len (l_e (dv 0 rfl))) (by walk_at "d3") nd rfl ⟨.inr rfl, ⟨.inr rfl, ⟨.inr rfl, ⟨.inr (by
          walk_at "start"), ⟨.inl rfl, trivial⟩⟩⟩⟩⟩ (fun i1 hi1 => ?_) ?_
  · have hl := pl1_len xs (List.replicate (mx xs ys) 0) i1; have hm : mx xs ys = max xs.length ys.length := rfl
    refine s_env (env' := [_, _, _, _, _]) rfl ?_
    refine s_then (s_setIxD 3 rfl (e_ixI (l_e (dv 0 rfl)) (dv 4 rfl) (by walk_at "ix")) (dv 4 rfl) (by walk_at "ix") rfl) ?_
    refine s_env (env' := [_, _, _, _, _]) rfl ?_
    refine s_nil ⟨.inr rfl, ⟨.inr rfl, ⟨.inr rfl, ⟨.inr (by
            walk_at "step"), ⟨.inl rfl, trivial⟩⟩⟩⟩⟩
  refine s_env (env' := [_, _, _, _, _]) rfl ?_
  refine c_forRN (j := 4) (fun i => [(3, .own (dI (iter (pl2 ys) (plA xs ys) i))), (4, .no)]) PassesOwn.never B.range (e_lenG (enc := PyData.int) B.len (l_e (dv 1 rfl))) (by walk_at "d3") nd rfl ⟨.inr rfl, ⟨.inr rfl, ⟨.inr rfl, ⟨.inr (by
          walk_at "start"), ⟨.inl rfl, trivial⟩⟩⟩⟩⟩ (fun i1 hi1 => ?_) ?_
  · have hl := pl2_len ys (plA xs ys) i1; have hl2 := pl1_len xs (List.replicate (mx xs ys) 0) xs.length; have hm : mx xs ys = max xs.length ys.length := rfl; have he : plA xs ys = iter (pl1 xs) (List.replicate (mx xs ys) 0) xs.length := rfl; rw [← he] at hl2
    refine s_env (env' := [_, _, _, _, _]) rfl ?_
    refine s_then (s_setIxD 3 rfl (e_add (e_ixI (ov 3 rfl) (dv 4 rfl) (by walk_at "ix")) (e_ixI (l_e (dv 1 rfl)) (dv 4 rfl) (by walk_at "ix"))) (dv 4 rfl) (by walk_at "ix") rfl) ?_
    refine s_env (env' := [_, _, _, _, _]) rfl ?_
    refine s_nil ⟨.inr rfl, ⟨.inr rfl, ⟨.inr rfl, ⟨.inr (by
            walk_at "step"), ⟨.inl rfl, trivial⟩⟩⟩⟩⟩
  refine s_env (env' := [_, _, _, _, _]) rfl ?_
  exact s_last (s_retO (o_callH D_trimmed hr (a_cons (m := false) (e_l (ov 3 rfl)) (a_nil (m := false))) rfl ⟨_, rfl, rfl⟩ (by walk_at "scal")) (by walk_at "RET"))
/-! ### times -/
abbrev s_times : Stmt := topS 6
theorem sc_times : FnScope ["one", "two", "total", "k", "m"] ["one", "two"] (defScope s_times) := ⟨rfl, rfl, rfl, by decide +kernel, rfl, by decide +kernel, by decide +kernel⟩
def R_times (dd : List PyData) (r : RS) : Prop := ∃ (xs : (List Int)) (ys : (List Int)), dd = [((eL PyData.int) xs), ((eL PyData.int) ys)] ∧ (xs.length ≤ 100000 ∧ ys.length ≤ 100000) ∧ (Sml xs) ∧ (Sml ys) ∧ r = .own ((times xs ys).map PyData.int)
theorem ok_times {P : Program} {w : World} {K : KF} {mg : Str → Option Value} {base : Heap} {k : Nat} (B : Bt mg) (a : At K mg "times" s_times ["one", "two"]) : Def P w K mg base (k + 1) "times" (spD K 2 R_times) := by
  have nd := sc_times.nd
  refine a.def fun f fd F => def_ok F sc_times fun cdv A outer s H E ds r hr hl hR => ?_
  obtain ⟨xs, ys, rfl, hp1, hp2, hp3, rfl⟩ := hR
  show PSs _ _ (tS K [.dat ((eL PyData.int) xs), .dat ((eL PyData.int) ys), .no, .no, .no] _)
  refine s_fork (s_if (t_w (w_or (c_eqI (m := true) (e_lenG (enc := PyData.int) B.len (l_e (dv 0 rfl))) e_int).2 (fun hq => (w_one (c_eqI (m := true) (e_lenG (enc := PyData.int) B.len (l_e (dv 1 rfl))) e_int).2)))) (fun hb25 => ?_) (fun hb25 => ?_))
  · walk_at "hb"
    exact s_last (s_retO o_nil (by
            simp_all [times]))
  · walk_at "hb"
    refine s_nil ?_
    refine s_then (s_setO 2 nd rfl (o_rep1 e_int (e_sub (e_add (e_lenG (enc := PyData.int) B.len (l_e (dv 0 rfl))) (e_lenG (enc := PyData.int) B.len (l_e (dv 1 rfl)))) e_int) (by walk_at "d3") (by walk_at "d3") (by walk_at "len")) rfl) ?_
    refine s_env (env' := [_, _, _, _, _]) rfl ?_
    refine c_forRN (j := 3) (fun i => [(4, .no), (2, .own (dI (iter (to xs ys) (List.replicate (xs.length + ys.length - 1) 0) i))), (3, .no)]) PassesOwn.never B.range (e_lenG (enc := PyData.int) B.len (l_e (dv 0 rfl))) (by walk_at "d3") nd rfl ⟨.inr rfl, ⟨.inr rfl, ⟨.inr (by
            walk_at "start"), ⟨.inl rfl, ⟨.inl rfl, trivial⟩⟩⟩⟩⟩ (fun i1 hi1 => ?_) ?_
    · have hl1 := to_len xs ys (List.replicate (xs.length + ys.length - 1) 0) i1
      refine s_env (env' := [_, _, _, _, _]) rfl ?_
      refine c_forRN (j := 4) (fun i => [(2, .own (dI (iter (ti xs ys i1) (iter (to xs ys) (List.replicate (xs.length + ys.length - 1) 0) i1) i))), (4, .no)]) PassesOwn.never B.range (e_lenG (enc := PyData.int) B.len (l_e (dv 1 rfl))) (by walk_at "d3") nd rfl ⟨.inr rfl, ⟨.inr rfl, ⟨.inr (by
              walk_at "start"), ⟨.inr rfl, ⟨.inl rfl, trivial⟩⟩⟩⟩⟩ (fun i2 hi2 => ?_) ?_
      · have hl2 := ti_len xs ys (iter (to xs ys) (List.replicate (xs.length + ys.length - 1) 0) i1) i1 i2
        refine s_env (env' := [_, _, _, _, _]) rfl ?_
        refine s_then (s_setIxD 2 rfl (e_add (e_ixI (ov 2 rfl) (e_add (dv 3 rfl) (dv 4 rfl)) (by walk_at "ix")) (e_mul (e_ixI (l_e (dv 0 rfl)) (dv 3 rfl) (by walk_at "ix")) (e_ixI (l_e (dv 1 rfl)) (dv 4 rfl) (by walk_at "ix")) (by
                exact Sm.mulW (hp2.get _) (hp3.get _) (by decide)))) (e_add (dv 3 rfl) (dv 4 rfl)) (by walk_at "ix") rfl) ?_
        refine s_env (env' := [_, _, _, _, _]) rfl ?_
        refine s_nil ⟨.inr rfl, ⟨.inr rfl, ⟨.inr (by
                walk_at "step"), ⟨.inr rfl, ⟨.inl rfl, trivial⟩⟩⟩⟩⟩
      refine s_env (env' := [_, _, _, _, _]) rfl ?_
      refine s_nil ⟨.inr rfl, ⟨.inr rfl, ⟨.inr (by
              walk_at "step"), ⟨.inl rfl, ⟨.inl rfl, trivial⟩⟩⟩⟩⟩
    refine s_env (env' := [_, _, _, _, _]) rfl ?_
    exact s_last (s_retV 2 rfl (by first | exact .inl rfl | exact .inr (.inl rfl)) rfl (by
            simp_all [times]))
/-! ### scaled -/
abbrev s_scaled : Stmt := topS 7
theorem sc_scaled : FnScope ["one", "number", "part"] ["one", "number"] (defScope s_scaled) := ⟨rfl, rfl, rfl, by decide +kernel, rfl, by decide +kernel, by decide +kernel⟩
def R_scaled (dd : List PyData) (r : RS) : Prop := ∃ (xs : (List Int)) (n : Int), dd = [((eL PyData.int) xs), (.int n)] ∧ (xs.length ≤ 100000) ∧ (Sml xs) ∧ (Sm 2000 n) ∧ r = .own ((scaled xs n).map PyData.int)
theorem ok_scaled {P : Program} {w : World} {K : KF} {mg : Str → Option Value} {base : Heap} {k : Nat} (B : Bt mg) (a : At K mg "scaled" s_scaled ["one", "number"]) : Def P w K mg base (k + 1) "scaled" (spD K 2 R_scaled) := by
  have nd := sc_scaled.nd
  refine a.def fun f fd F => def_ok F sc_scaled fun cdv A outer s H E ds r hr hl hR => ?_
  obtain ⟨xs, n, rfl, hp1, hp2, hp3, rfl⟩ := hR
  show PSs _ _ (tS K [.dat ((eL PyData.int) xs), .dat (.int n), .no] _)
  refine s_fork (s_if (c_eqI (m := true) (dv 1 rfl) e_int).2 (fun hb33 => ?_) (fun hb33 => ?_))
  · walk_at "hb"
    exact s_last (s_retO o_nil (by
            simp_all [scaled]))
  · walk_at "hb"
    refine s_nil ?_
    exact s_last (s_retO (o_lcTA (enc := PyData.int) (encB := PyData.int) (own := [("part", 2)]) (g := gName 2) (ix := [2]) (f := (fun z env => (env.set 2 (.dat (.int z))))) nd (i_list (dv 0 rfl)) (by walk_at "len") (by show blkC ["one", "number", "part"] (defScope s_scaled) _ [("part", 2)] = true; decide +kernel) (fun s H C cl fp => (pg_name (i := 2) nd rfl (by first | exact .inl rfl | exact .inr rfl))) (fun z hz => asg_name) (by decide) (fun z hz s H C cl fp => (e_mul (dv 1 rfl) (dv 2 rfl) (by
            exact Sm.mulW hp3 (hp2 _ hz) (by decide))))) (by
            simp_all [scaled]))
/-! ### raised -/
abbrev s_raised : Stmt := topS 8
theorem sc_raised : FnScope ["one", "k"] ["one", "k"] (defScope s_raised) := ⟨rfl, rfl, rfl, by decide +kernel, rfl, by decide +kernel, by decide +kernel⟩
def R_raised (dd : List PyData) (r : RS) : Prop := ∃ (xs : (List Int)) (n : Int), dd = [((eL PyData.int) xs), (.int n)] ∧ (xs.length ≤ 100000) ∧ (0 ≤ n ∧ n ≤ 100000) ∧ r = .own ((raised xs n).map PyData.int)
theorem ok_raised {P : Program} {w : World} {K : KF} {mg : Str → Option Value} {base : Heap} {k : Nat} (B : Bt mg) (a : At K mg "raised" s_raised ["one", "k"]) : Def P w K mg base (k + 1) "raised" (spD K 2 R_raised) := by
  have nd := sc_raised.nd
  refine a.def fun f fd F => def_ok F sc_raised fun cdv A outer s H E ds r hr hl hR => ?_
  obtain ⟨xs, n, rfl, hp1, hp2, rfl⟩ := hR
  show PSs _ _ (tS K [.dat ((eL PyData.int) xs), .dat (.int n)] _)
  refine s_fork (s_if (c_eqI (m := true) (e_lenG (enc := PyData.int) B.len (l_e (dv 0 rfl))) e_int).2 (fun hb37 => ?_) (fun hb37 => ?_))
  · walk_at "hb"
    exact s_last (s_retO o_nil (by
            simp_all [raised]))
  · walk_at "hb"
    refine s_nil ?_
    exact s_last (s_retO (o_catG (enc := PyData.int) (l_o (o_rep1 e_int (dv 1 rfl) (by walk_at "d3") (by walk_at "d3") (by walk_at "len"))) (l_o (o_listOf B.list (l_e (dv 0 rfl)))) (by walk_at "len")) (by
            simp_all [raised]))
/-! ### _law_draws -/
abbrev s__law_draws : Stmt := topS 10
theorem sc__law_draws : FnScope ["script", "draws", "k", "rest", "turn", "mixed"] ["script"] (defScope s__law_draws) := ⟨rfl, rfl, rfl, by decide +kernel, rfl, by decide +kernel, by decide +kernel⟩
def R__law_draws (ns : List Int) (r : RS) : Prop := r = .own (dI (draws ns))
theorem ok__law_draws {P : Program} {w : World} {K : KF} {mg : Str → Option Value} {base : Heap} {k : Nat} (B : Bt mg) (a : At K mg "_law_draws" s__law_draws ["script"]) : Def P w K mg base (k + 1) "_law_draws" (spScr K R__law_draws) := by
  have nd := sc__law_draws.nd
  refine a.def fun f fd F => def_scr F sc__law_draws rfl fun cdv A outer s H E ns r hr hR => ?_
  have hR : r = _ := hR
  subst hR
  show PSs _ _ (tS K [.scr ns, .no, .no, .no, .no, .no] _)
  refine s_then (s_setO 1 nd rfl o_nil rfl) ?_
  refine s_env (env' := [_, _, _, _, _, _]) rfl ?_
  refine c_forR (j := 2) (fun i => [(3, .no), (4, .no), (5, .no), (1, .own (dI (iter (dstep ns) [] i))), (2, .no)]) PassesOwn.never B.range (e_min2 B.min e_int (e_lenScrD 0 B.len rfl)) (by walk_at "d3") nd rfl ⟨.inr rfl, ⟨.inr (by
          walk_at "start"), ⟨.inl rfl, ⟨.inl rfl, ⟨.inl rfl, ⟨.inl rfl, trivial⟩⟩⟩⟩⟩⟩ (fun i1 hi1 => ?_) ?_
  · have h63 : i1 < 63 ∧ i1 < ns.length := by split at hi1 <;> omega
    have hl1 := ds_len ns i1
    refine s_env (env' := [_, _, _, _, _, _]) rfl ?_
    refine s_then (s_set 3 nd rfl (e_abs B.abs (e_ixScrD 0 rfl (dv 2 rfl) (by walk_at "d3"))) rfl) ?_
    refine s_env (env' := [_, _, _, _, _, _]) rfl ?_
    refine s_fork (s_if (c_ge (m := true) (dv 3 rfl) (e_pow e_int e_int (by walk_at "d3"))).2 (fun hb45 => ?_) (fun hb45 => ?_))
    · walk_at "hb"
      refine c_forR (j := 4) (fun i => [(3, .dat (.int (iter dg (iter (dstep ns) [] i1, absI (ns.getD i1 0)) i).2)), (1, .own (dI (iter dg (iter (dstep ns) [] i1, absI (ns.getD i1 0)) i).1)), (4, .no)]) PassesOwn.never B.range e_int (by walk_at "d3") nd rfl ⟨.inr rfl, ⟨.inr (by
              walk_at "start"), ⟨.inr rfl, ⟨.inr (by
              walk_at "start"), ⟨.inl rfl, ⟨.inr rfl, trivial⟩⟩⟩⟩⟩⟩ (fun i2 hi2 => ?_) ?_
      · have hl2 := dg_len (iter (dstep ns) [] i1, absI (ns.getD i1 0)) i2
        simp only at hl2
        refine s_env (env' := [_, _, _, _, _, _]) rfl ?_
        refine s_fork (s_if (c_gt (m := true) (dv 3 rfl) e_int).2 (fun hb47 => ?_) (fun hb47 => ?_))
        · walk_at "hb"
          refine s_then (s_appG (enc := PyData.int) 1 rfl (e_mod (e_intI B.int (dv 3 rfl)) e_int (by walk_at "d3")) (by walk_at "app") rfl) ?_
          refine s_env (env' := [_, _, _, _, _, _]) rfl ?_
          refine s_then (s_set 3 nd rfl (e_fdiv (dv 3 rfl) e_int (by walk_at "d3")) rfl) ?_
          refine s_env (env' := [_, _, _, _, _, _]) rfl ?_
          refine s_nil ?_
          refine s_nil ⟨.inr rfl, ⟨.inr (by
                  rw [iter_succ, dg]
                  simp only [decide_eq_true_eq, decide_eq_false_iff_not] at hb47
                  first | (rw [if_pos hb47]; done) | (rw [if_neg hb47]; done) | (rw [if_pos hb47]; rfl)), ⟨.inr rfl, ⟨.inr (by
                  rw [iter_succ, dg]
                  simp only [decide_eq_true_eq, decide_eq_false_iff_not] at hb47
                  first | (rw [if_pos hb47]; done) | (rw [if_neg hb47]; done) | (rw [if_pos hb47]; rfl)), ⟨.inl rfl, ⟨.inr rfl, trivial⟩⟩⟩⟩⟩⟩
        · walk_at "hb"
          refine s_nil ?_
          refine s_nil ⟨.inr rfl, ⟨.inr (by
                  rw [iter_succ, dg]
                  simp only [decide_eq_true_eq, decide_eq_false_iff_not] at hb47
                  first | (rw [if_pos hb47]; done) | (rw [if_neg hb47]; done) | (rw [if_pos hb47]; rfl)), ⟨.inr rfl, ⟨.inr (by
                  rw [iter_succ, dg]
                  simp only [decide_eq_true_eq, decide_eq_false_iff_not] at hb47
                  first | (rw [if_pos hb47]; done) | (rw [if_neg hb47]; done) | (rw [if_pos hb47]; rfl)), ⟨.inl rfl, ⟨.inr rfl, trivial⟩⟩⟩⟩⟩⟩
      refine s_env (env' := [_, _, _, _, _, _]) rfl ?_
      refine s_nil ?_
      refine s_nil ⟨.inr rfl, ⟨.inr (by
              rw [iter_succ, dstep]
              simp only [decide_eq_true_eq, decide_eq_false_iff_not] at hb45
              first | (rw [if_pos (show 10 ^ (18 : Int).toNat ≤ absI (ns.getD i1 0) from hb45)]; rfl) | (rw [if_neg (show ¬ 10 ^ (18 : Int).toNat ≤ absI (ns.getD i1 0) from hb45)]; rfl)), ⟨.inl rfl, ⟨.inl rfl, ⟨.inl rfl, ⟨.inl rfl, trivial⟩⟩⟩⟩⟩⟩
    · walk_at "hb"
      refine s_then (s_set 5 nd rfl (e_mod (e_intI B.int (e_add (e_mulS (dv 3 rfl) e_int (by walk_at "mulS")) (e_mulS (e_add (dv 2 rfl) e_int) e_int (by walk_at "mulS")))) e_int (by walk_at "d3")) rfl) ?_
      refine s_env (env' := [_, _, _, _, _, _]) rfl ?_
      refine s_then (s_set 5 nd rfl (e_mod (e_intI B.int (e_add (e_add (e_mulS (dv 5 rfl) e_int (by walk_at "mulS")) (e_mulS e_int (dv 2 rfl) (by walk_at "mulS"))) e_int)) e_int (by walk_at "d3")) rfl) ?_
      refine s_env (env' := [_, _, _, _, _, _]) rfl ?_
      refine s_then (s_appG (enc := PyData.int) 1 rfl (e_mod (e_intI B.int (dv 5 rfl)) e_int (by walk_at "d3")) (by walk_at "app") rfl) ?_
      refine s_env (env' := [_, _, _, _, _, _]) rfl ?_
      refine s_then (s_appG (enc := PyData.int) 1 rfl (e_mod (e_intI B.int (e_fdiv (dv 5 rfl) e_int (by walk_at "d3"))) e_int (by walk_at "d3")) (by walk_at "app") rfl) ?_
      refine s_env (env' := [_, _, _, _, _, _]) rfl ?_
      refine s_nil ?_
      refine s_nil ⟨.inr rfl, ⟨.inr (by
              rw [iter_succ, dstep]
              simp only [decide_eq_true_eq, decide_eq_false_iff_not] at hb45
              first | (rw [if_pos (show 10 ^ (18 : Int).toNat ≤ absI (ns.getD i1 0) from hb45)]; rfl) | (rw [if_neg (show ¬ 10 ^ (18 : Int).toNat ≤ absI (ns.getD i1 0) from hb45)]; rfl)), ⟨.inl rfl, ⟨.inl rfl, ⟨.inl rfl, ⟨.inl rfl, trivial⟩⟩⟩⟩⟩⟩
  refine s_env (env' := [_, _, _, _, _, _]) rfl ?_
  exact s_last (s_retV 1 rfl (by first | exact .inl rfl | exact .inr (.inl rfl)) rfl (by walk_at "RET"))
/-! ### _law_at -/
abbrev s__law_at : Stmt := topS 11
theorem sc__law_at : FnScope ["draws", "k", "many"] ["draws", "k", "many"] (defScope s__law_at) := ⟨rfl, rfl, rfl, by decide +kernel, rfl, by decide +kernel, by decide +kernel⟩
def R__law_at (dd : List PyData) (r : RS) : Prop := ∃ (ds : (List Int)) (u : Int) (v : Int), dd = [((eL PyData.int) ds), (.int u), (.int v)] ∧ (0 ≤ u ∧ 0 < v) ∧ r = .dat (.int (lawAt ds u v))
theorem ok__law_at {P : Program} {w : World} {K : KF} {mg : Str → Option Value} {base : Heap} {k : Nat} (B : Bt mg) (a : At K mg "_law_at" s__law_at ["draws", "k", "many"]) : Def P w K mg base (k + 1) "_law_at" (spD K 3 R__law_at) := by
  have nd := sc__law_at.nd
  refine a.def fun f fd F => def_ok F sc__law_at fun cdv A outer s H E ds r hr hl hR => ?_
  obtain ⟨ds, u, v, rfl, hp1, rfl⟩ := hR
  show PSs _ _ (tS K [.dat ((eL PyData.int) ds), .dat (.int u), .dat (.int v)] _)
  refine s_fork (s_if (c_lt (m := true) (dv 1 rfl) (e_lenG (enc := PyData.int) B.len (l_e (dv 0 rfl)))).2 (fun hb57 => ?_) (fun hb57 => ?_))
  · walk_at "hb"
    exact s_last (s_ret (e_mod (e_intI B.int (e_ixI (l_e (dv 0 rfl)) (dv 1 rfl) (by walk_at "ix"))) (dv 2 rfl) (by walk_at "d3")) (by
            simp_all [lawAt]))
  · walk_at "hb"
    refine s_nil ?_
    exact s_last (s_ret e_int (by
            simp_all [lawAt]))
/-! ### _law_is_integer -/
abbrev s__law_is_integer : Stmt := topS 12
theorem sc__law_is_integer : FnScope ["actual"] ["actual"] (defScope s__law_is_integer) := ⟨rfl, rfl, rfl, by decide +kernel, rfl, by decide +kernel, by decide +kernel⟩
def R__law_is_integer (dd : List PyData) (r : RS) : Prop := ∃ (u : Int), dd = [(.int u)] ∧ r = .dat (.bool ((fun _ : Int => true) u))
theorem ok__law_is_integer {P : Program} {w : World} {K : KF} {mg : Str → Option Value} {base : Heap} {k : Nat} (B : Bt mg) (a : At K mg "_law_is_integer" s__law_is_integer ["actual"]) : Def P w K mg base (k + 1) "_law_is_integer" (spD K 1 R__law_is_integer) := by
  have nd := sc__law_is_integer.nd
  refine a.def fun f fd F => def_ok F sc__law_is_integer fun cdv A outer s H E ds r hr hl hR => ?_
  obtain ⟨u, rfl, rfl⟩ := hR
  show PSs _ _ (tS K [.dat (.int u)] _)
  exact s_last (s_ret (e_and (e_isi B.isinstance (m1 := true) (dv 0 rfl) (ty_int B.int) isi_int_int) (fun hq => (e_one (e_not (e_isi B.isinstance (m1 := true) (dv 0 rfl) (ty_bool B.bool) isi_int_bool))))) (by walk_at "RET"))
/-! ### _law_number -/
abbrev s__law_number : Stmt := topS 13
theorem sc__law_number : FnScope ["draws", "k", "kind", "cell", "side"] ["draws", "k"] (defScope s__law_number) := ⟨rfl, rfl, rfl, by decide +kernel, rfl, by decide +kernel, by decide +kernel⟩
def R__law_number (dd : List PyData) (r : RS) : Prop := ∃ (ds : (List Int)) (u : Int), dd = [((eL PyData.int) ds), (.int u)] ∧ (0 ≤ u) ∧ r = .dat (.int (num ds u))
theorem ok__law_number {P : Program} {w : World} {K : KF} {mg : Str → Option Value} {base : Heap} {k : Nat} (B : Bt mg) (D__law_at : Def P w K mg base k "_law_at" (spD K 3 R__law_at)) (a : At K mg "_law_number" s__law_number ["draws", "k"]) : Def P w K mg base (k + 1) "_law_number" (spD K 2 R__law_number) := by
  have nd := sc__law_number.nd
  refine a.def fun f fd F => def_ok F sc__law_number fun cdv A outer s H E ds r hr hl hR => ?_
  obtain ⟨ds, u, rfl, hp1, rfl⟩ := hR
  have hc := lawAt_bd ds (u + 1) 65536 (by decide)
  show PSs _ _ (tS K [.dat ((eL PyData.int) ds), .dat (.int u), .no, .no, .no] _)
  refine s_then (s_set 2 nd rfl (e_call D__law_at hr (a_cons (m := true) (dv 0 rfl) (a_cons (m := true) (dv 1 rfl) (a_cons (m := true) e_int (a_nil (m := true))))) rfl ⟨_, _, _, rfl, (by walk_at "PRE"), rfl⟩) rfl) ?_
  refine s_env (env' := [_, _, _, _, _]) rfl ?_
  refine s_then (s_set 3 nd rfl (e_call D__law_at hr (a_cons (m := true) (dv 0 rfl) (a_cons (m := true) (e_add (dv 1 rfl) e_int) (a_cons (m := true) e_int (a_nil (m := true))))) rfl ⟨_, _, _, rfl, (by walk_at "PRE"), rfl⟩) rfl) ?_
  refine s_env (env' := [_, _, _, _, _]) rfl ?_
  refine s_then (s_set 4 nd rfl (e_sub e_int (e_mulS e_int (e_mod (e_intI B.int (dv 3 rfl)) e_int (by walk_at "d3")) (by walk_at "mulS"))) rfl) ?_
  refine s_env (env' := [_, _, _, _, _]) rfl ?_
  refine s_fork (s_if (c_lt (m := true) (dv 2 rfl) e_int).2 (fun hb66 => ?_) (fun hb66 => ?_))
  · walk_at "hb"
    exact s_last (s_ret (e_sub (e_mod (e_intI B.int (e_fdiv (dv 3 rfl) e_int (by walk_at "d3"))) e_int (by walk_at "d3")) e_int) (by
            unfold num
            walk_at "IFS"))
  · walk_at "hb"
    refine s_nil ?_
    refine s_fork (s_if (c_lt (m := true) (dv 2 rfl) e_int).2 (fun hb68 => ?_) (fun hb68 => ?_))
    · walk_at "hb"
      exact s_last (s_ret (e_sub (e_mod (e_intI B.int (e_fdiv (dv 3 rfl) e_int (by walk_at "d3"))) e_int (by walk_at "d3")) e_int) (by
              unfold num
              walk_at "IFS"))
    · walk_at "hb"
      refine s_nil ?_
      refine s_fork (s_if (c_eqI (m := true) (dv 2 rfl) e_int).2 (fun hb70 => ?_) (fun hb70 => ?_))
      · walk_at "hb"
        exact s_last (s_ret (e_mulS (dv 4 rfl) (e_pow e_int e_int (by walk_at "d3")) (by walk_at "mulS")) (by
                unfold num
                walk_at "IFS"))
      · walk_at "hb"
        refine s_nil ?_
        exact s_last (s_ret (e_mulS (dv 4 rfl) (e_mod (e_intI B.int (e_pow (e_intI B.int (e_add (e_mulS (dv 3 rfl) e_int (by walk_at "mulS")) e_int)) e_int (by walk_at "d3"))) (e_pow e_int e_int (by walk_at "d3")) (by walk_at "d3")) (by walk_at "mulS")) (by
                unfold num
                walk_at "IFS"))
/-! ### _law_poly -/
abbrev s__law_poly : Stmt := topS 14
theorem sc__law_poly : FnScope ["draws", "k", "most", "numbers", "last", "m"] ["draws", "k", "most"] (defScope s__law_poly) := ⟨rfl, rfl, rfl, by decide +kernel, rfl, by decide +kernel, by decide +kernel⟩
def R__law_poly (dd : List PyData) (r : RS) : Prop := ∃ (ds : (List Int)) (u : Int) (v : Int), dd = [((eL PyData.int) ds), (.int u), (.int v)] ∧ (0 ≤ u ∧ 0 ≤ v ∧ v ≤ 10) ∧ r = .own ((poly ds u v).map PyData.int)
theorem ok__law_poly {P : Program} {w : World} {K : KF} {mg : Str → Option Value} {base : Heap} {k : Nat} (B : Bt mg) (D__law_number : Def P w K mg base k "_law_number" (spD K 2 R__law_number)) (D__law_at : Def P w K mg base k "_law_at" (spD K 3 R__law_at)) (a : At K mg "_law_poly" s__law_poly ["draws", "k", "most"]) : Def P w K mg base (k + 1) "_law_poly" (spD K 3 R__law_poly) := by
  have nd := sc__law_poly.nd
  refine a.def fun f fd F => def_ok F sc__law_poly fun cdv A outer s H E ds r hr hl hR => ?_
  obtain ⟨ds, u, v, rfl, hp1, rfl⟩ := hR
  have hc := lawAt_bd ds u (v + 2) (by omega)
  show PSs _ _ (tS K [.dat ((eL PyData.int) ds), .dat (.int u), .dat (.int v), .no, .no, .no] _)
  refine s_then (s_setLcTA (enc := (fun z => (fun (k : Nat) => PyData.int (k : Int)) z)) (encB := PyData.int) (own := [("m", 5)]) (g := gName 5) (ix := [5]) (f := (fun z env => (env.set 5 (.dat ((fun (k : Nat) => PyData.int (k : Int)) z))))) 3 nd rfl (i_rngN B.range (e_call D__law_at hr (a_cons (m := true) (dv 0 rfl) (a_cons (m := true) (dv 1 rfl) (a_cons (m := true) (e_add (dv 2 rfl) e_int) (a_nil (m := true))))) rfl ⟨_, _, _, rfl, (by walk_at "PRE"), rfl⟩) (by walk_at "d3")) (by walk_at "len") (by show blkC ["draws", "k", "most", "numbers", "last", "m"] (defScope s__law_poly) _ [("m", 5)] = true; decide +kernel) (fun s H C cl fp => (pg_name (i := 5) nd rfl (by first | exact .inl rfl | exact .inr rfl))) (fun z hz => asg_name) (by decide) (fun z hz s H C cl fp => (e_call D__law_number hr (a_cons (m := true) (dv 0 rfl) (a_cons (m := true) (e_add (e_add (dv 1 rfl) e_int) (e_mulS e_int (dv 5 rfl) (by walk_at "mulS"))) (a_nil (m := true)))) rfl ⟨_, _, rfl, (by walk_at "PRE"), rfl⟩)) rfl) ?_
  refine s_frz (i := 3) rfl ?_
  refine s_env (env' := [_, _, _, _, _, _]) rfl ?_
  show PSs _ _ (tS K [.dat (eL PyData.int ds), .dat (.int u), .dat (.int v), .dat (eL PyData.int (polyN ds u v)), .no, .no] _)
  have hpl : (polyN ds u v).length ≤ 12 := by unfold polyN; rw [List.length_map, List.length_range]; omega
  refine s_then (s_set 4 nd rfl e_int rfl) ?_
  refine s_env (env' := [_, _, _, _, _, _]) rfl ?_
  refine c_forRN (j := 5) (fun i => [(4, .dat (.int (iter (lst (polyN ds u v)) 0 i))), (5, .no)]) PassesOwn.never B.range (e_lenG (enc := PyData.int) B.len (l_e (dv 3 rfl))) (by walk_at "d3") nd rfl ⟨.inr rfl, ⟨.inr rfl, ⟨.inr rfl, ⟨.inr rfl, ⟨.inr (by
          walk_at "start"), ⟨.inl rfl, trivial⟩⟩⟩⟩⟩⟩ (fun i1 hi1 => ?_) ?_
  · skip
    refine s_env (env' := [_, _, _, _, _, _]) rfl ?_
    refine s_fork (s_if (c_neI (m := true) (e_ixI (l_e (dv 3 rfl)) (dv 5 rfl) (by walk_at "ix")) e_int).2 (fun hb77 => ?_) (fun hb77 => ?_))
    · walk_at "hb"
      refine s_then (s_set 4 nd rfl (e_add (dv 5 rfl) e_int) rfl) ?_
      refine s_env (env' := [_, _, _, _, _, _]) rfl ?_
      refine s_nil ?_
      refine s_nil ⟨.inr rfl, ⟨.inr rfl, ⟨.inr rfl, ⟨.inr rfl, ⟨.inr (by
              rw [iter_succ, lst]
              have HB := hb77
              simp only [Bool.not_eq_true', Bool.not_eq_false', decide_eq_true_eq, decide_eq_false_iff_not, Int.toNat_natCast] at HB
              first | (rw [if_pos HB]; done) | (rw [if_neg HB]; done) | (rw [if_pos HB]; rfl) | (rw [if_neg HB]; rfl)), ⟨.inl rfl, trivial⟩⟩⟩⟩⟩⟩
    · walk_at "hb"
      refine s_nil ?_
      refine s_nil ⟨.inr rfl, ⟨.inr rfl, ⟨.inr rfl, ⟨.inr rfl, ⟨.inr (by
              rw [iter_succ, lst]
              have HB := hb77
              simp only [Bool.not_eq_true', Bool.not_eq_false', decide_eq_true_eq, decide_eq_false_iff_not, Int.toNat_natCast] at HB
              first | (rw [if_pos HB]; done) | (rw [if_neg HB]; done) | (rw [if_pos HB]; rfl) | (rw [if_neg HB]; rfl)), ⟨.inl rfl, trivial⟩⟩⟩⟩⟩⟩
  refine s_env (env' := [_, _, _, _, _, _]) rfl ?_
  have hb := lst_bd (polyN ds u v) (polyN ds u v).length
  exact s_last (s_retO (o_to (enc := PyData.int) (l_e (dv 3 rfl)) (dv 4 rfl) (by walk_at "d3")) (by walk_at "RET"))
/-! ### _law_is_poly -/
abbrev s__law_is_poly : Stmt := topS 15
theorem sc__law_is_poly : FnScope ["actual", "number"] ["actual"] (defScope s__law_is_poly) := ⟨rfl, rfl, rfl, by decide +kernel, rfl, by decide +kernel, by decide +kernel⟩
def R__law_is_poly (dd : List PyData) (r : RS) : Prop := ∃ (xs : (List Int)), dd = [((eL PyData.int) xs)] ∧ (xs.length ≤ 100000) ∧ r = .dat (.bool (isP xs))
theorem ok__law_is_poly {P : Program} {w : World} {K : KF} {mg : Str → Option Value} {base : Heap} {k : Nat} (B : Bt mg) (D__law_is_integer : Def P w K mg base k "_law_is_integer" (spD K 1 R__law_is_integer)) (a : At K mg "_law_is_poly" s__law_is_poly ["actual"]) : Def P w K mg base (k + 1) "_law_is_poly" (spD K 1 R__law_is_poly) := by
  have nd := sc__law_is_poly.nd
  refine a.def fun f fd F => def_ok F sc__law_is_poly fun cdv A outer s H E ds r hr hl hR => ?_
  obtain ⟨xs, rfl, hp1, rfl⟩ := hR
  show PSs _ _ (tS K [.dat ((eL PyData.int) xs), .no] _)
  refine s_fork (s_if (t_w (w_or (t_not (t_val (e_isi B.isinstance (m1 := true) (dv 0 rfl) (ty_list B.list) isi_list_list))) (fun hq => (w_one (t_not (t_val (e_allD B.all (l_o (o_lcTA (enc := PyData.int) (encB := PyData.bool) (own := [("number", 1)]) (g := gName 1) (ix := [1]) (f := (fun z env => (env.set 1 (.dat (.int z))))) nd (i_list (dv 0 rfl)) (by walk_at "len") (by show blkC ["actual", "number"] (defScope s__law_is_poly) _ [("number", 1)] = true; decide +kernel) (fun s H C cl fp => (pg_name (i := 1) nd rfl (by first | exact .inl rfl | exact .inr rfl))) (fun z hz => asg_name) (by decide) (fun z hz s H C cl fp => (e_call D__law_is_integer hr (a_cons (m := true) (dv 1 rfl) (a_nil (m := true))) rfl ⟨_, rfl, rfl⟩))))))))))) (fun hb81 => ?_) (fun hb81 => ?_))
  · walk_at "hb"
    exact s_last (s_ret e_bl (by
            first | rfl | simp_all))
  · walk_at "hb"
    refine s_nil ?_
    exact s_last (s_ret (e_or (c_eqI (e_lenG (enc := PyData.int) B.len (l_e (dv 0 rfl))) e_int).1 (fun hq => (e_one (c_neI (e_ixZ (l_e (dv 0 rfl)) (e_neg e_int) (by walk_at "ne")) e_int).1))) (by
            first | rfl | simp_all))
/-! ### _law_plus -/
abbrev s__law_plus : Stmt := topS 16
theorem sc__law_plus : FnScope ["one", "two", "total", "k", "last"] ["one", "two"] (defScope s__law_plus) := ⟨rfl, rfl, rfl, by decide +kernel, rfl, by decide +kernel, by decide +kernel⟩
def R__law_plus (dd : List PyData) (r : RS) : Prop := ∃ (xs : (List Int)) (ys : (List Int)), dd = [((eL PyData.int) xs), ((eL PyData.int) ys)] ∧ (xs.length ≤ 100000 ∧ ys.length ≤ 100000) ∧ r = .own ((lplus xs ys).map PyData.int)
theorem ok__law_plus {P : Program} {w : World} {K : KF} {mg : Str → Option Value} {base : Heap} {k : Nat} (B : Bt mg) (a : At K mg "_law_plus" s__law_plus ["one", "two"]) : Def P w K mg base (k + 1) "_law_plus" (spD K 2 R__law_plus) := by
  have nd := sc__law_plus.nd
  refine a.def fun f fd F => def_ok F sc__law_plus fun cdv A outer s H E ds r hr hl hR => ?_
  obtain ⟨xs, ys, rfl, hp1, rfl⟩ := hR
  show PSs _ _ (tS K [.dat ((eL PyData.int) xs), .dat ((eL PyData.int) ys), .no, .no, .no] _)
  refine s_then (s_setLcTA (enc := (fun z => (fun (k : Nat) => PyData.int (k : Int)) z)) (encB := PyData.int) (own := [("k", 3)]) (g := gName 3) (ix := [3]) (f := (fun z env => (env.set 3 (.dat ((fun (k : Nat) => PyData.int (k : Int)) z))))) 2 nd rfl (i_rngN B.range (e_max2n B.max (e_lenG (enc := PyData.int) B.len (l_e (dv 0 rfl))) (e_lenG (enc := PyData.int) B.len (l_e (dv 1 rfl)))) (by walk_at "d3")) (by walk_at "len") (by show blkC ["one", "two", "total", "k", "last"] (defScope s__law_plus) _ [("k", 3)] = true; decide +kernel) (fun s H C cl fp => (pg_name (i := 3) nd rfl (by first | exact .inl rfl | exact .inr rfl))) (fun z hz => asg_name) (by decide) (fun z hz s H C cl fp => e_int) rfl) ?_
  refine s_env (env' := [_, _, _, _, _]) rfl ?_
  refine c_forRN (j := 3) (fun i => [(2, .own (dI (iter (pl2 xs) (zer (max xs.length ys.length : Nat)) i))), (3, .no)]) PassesOwn.never B.range (e_lenG (enc := PyData.int) B.len (l_e (dv 0 rfl))) (by walk_at "d3") nd rfl ⟨.inr rfl, ⟨.inr rfl, ⟨.inr (by
          walk_at "start"), ⟨.inl rfl, ⟨.inr rfl, trivial⟩⟩⟩⟩⟩ (fun i1 hi1 => ?_) ?_
  · have hl1 := pl2_len xs (zer (max xs.length ys.length : Nat)) i1
    rw [zer_len] at hl1
    refine s_env (env' := [_, _, _, _, _]) rfl ?_
    refine s_then (s_setIxD 2 rfl (e_add (e_ixI (ov 2 rfl) (dv 3 rfl) (by walk_at "ix")) (e_ixI (l_e (dv 0 rfl)) (dv 3 rfl) (by walk_at "ix"))) (dv 3 rfl) (by walk_at "ix") rfl) ?_
    refine s_env (env' := [_, _, _, _, _]) rfl ?_
    refine s_nil ⟨.inr rfl, ⟨.inr rfl, ⟨.inr (by
            walk_at "step"), ⟨.inl rfl, ⟨.inr rfl, trivial⟩⟩⟩⟩⟩
  refine s_env (env' := [_, _, _, _, _]) rfl ?_
  refine c_forRN (j := 3) (fun i => [(2, .own (dI (iter (pl2 ys) (lpA xs ys) i))), (3, .no)]) PassesOwn.never B.range (e_lenG (enc := PyData.int) B.len (l_e (dv 1 rfl))) (by walk_at "d3") nd rfl ⟨.inr rfl, ⟨.inr rfl, ⟨.inr (by
          walk_at "start"), ⟨.inl rfl, ⟨.inr rfl, trivial⟩⟩⟩⟩⟩ (fun i1 hi1 => ?_) ?_
  · have hl1 := pl2_len ys (lpA xs ys) i1
    have hl2 := pl2_len xs (zer (max xs.length ys.length : Nat)) xs.length
    rw [zer_len] at hl2
    rw [show iter (pl2 xs) (zer (max xs.length ys.length : Nat)) xs.length = lpA xs ys from rfl] at hl2
    refine s_env (env' := [_, _, _, _, _]) rfl ?_
    refine s_then (s_setIxD 2 rfl (e_add (e_ixI (ov 2 rfl) (dv 3 rfl) (by walk_at "ix")) (e_ixI (l_e (dv 1 rfl)) (dv 3 rfl) (by walk_at "ix"))) (dv 3 rfl) (by walk_at "ix") rfl) ?_
    refine s_env (env' := [_, _, _, _, _]) rfl ?_
    refine s_nil ⟨.inr rfl, ⟨.inr rfl, ⟨.inr (by
            walk_at "step"), ⟨.inl rfl, ⟨.inr rfl, trivial⟩⟩⟩⟩⟩
  refine s_env (env' := [_, _, _, _, _]) rfl ?_
  have hlB : (iter (pl2 ys) (lpA xs ys) ys.length).length = max xs.length ys.length := lpB_len xs ys
  refine s_then (s_set 4 nd rfl e_int rfl) ?_
  refine s_env (env' := [_, _, _, _, _]) rfl ?_
  refine c_forRN (j := 3) (fun i => [(4, .dat (.int (iter (lst (lpB xs ys)) 0 i))), (3, .no)]) PassesOwn.never B.range (e_lenG (enc := PyData.int) B.len (ov 2 rfl)) (by walk_at "d3") nd rfl ⟨.inr rfl, ⟨.inr rfl, ⟨.inr rfl, ⟨.inl rfl, ⟨.inr (by
          walk_at "start"), trivial⟩⟩⟩⟩⟩ (fun i1 hi1 => ?_) ?_
  · skip
    refine s_env (env' := [_, _, _, _, _]) rfl ?_
    refine s_fork (s_if (c_neI (m := true) (e_ixI (ov 2 rfl) (dv 3 rfl) (by walk_at "ix")) e_int).2 (fun hb92 => ?_) (fun hb92 => ?_))
    · walk_at "hb"
      refine s_then (s_set 4 nd rfl (e_add (dv 3 rfl) e_int) rfl) ?_
      refine s_env (env' := [_, _, _, _, _]) rfl ?_
      refine s_nil ?_
      refine s_nil ⟨.inr rfl, ⟨.inr rfl, ⟨.inr rfl, ⟨.inl rfl, ⟨.inr (by
              rw [iter_succ, lst]
              have HB := hb92
              simp only [Bool.not_eq_true', Bool.not_eq_false', decide_eq_true_eq, decide_eq_false_iff_not, Int.toNat_natCast] at HB
              first | (change ¬ (lpB xs ys).getD i1 0 = 0 at HB; rw [if_neg HB]; done) | (change (lpB xs ys).getD i1 0 = 0 at HB; rw [if_pos HB]; done) | (rw [if_neg HB]; done) | (rw [if_pos HB]; rfl) | (rw [if_neg HB]; rfl)), trivial⟩⟩⟩⟩⟩
    · walk_at "hb"
      refine s_nil ?_
      refine s_nil ⟨.inr rfl, ⟨.inr rfl, ⟨.inr rfl, ⟨.inl rfl, ⟨.inr (by
              rw [iter_succ, lst]
              have HB := hb92
              simp only [Bool.not_eq_true', Bool.not_eq_false', decide_eq_true_eq, decide_eq_false_iff_not, Int.toNat_natCast] at HB
              first | (change ¬ (lpB xs ys).getD i1 0 = 0 at HB; rw [if_neg HB]; done) | (change (lpB xs ys).getD i1 0 = 0 at HB; rw [if_pos HB]; done) | (rw [if_neg HB]; done) | (rw [if_pos HB]; rfl) | (rw [if_neg HB]; rfl)), trivial⟩⟩⟩⟩⟩
  refine s_env (env' := [_, _, _, _, _]) rfl ?_
  have hb := lst_bd (lpB xs ys) (iter (pl2 ys) (lpA xs ys) ys.length).length
  exact s_last (s_retO (o_to (enc := PyData.int) (ov 2 rfl) (dv 4 rfl) (by walk_at "d3")) (by walk_at "RET"))
/-! ### _law_times -/
abbrev s__law_times : Stmt := topS 17
theorem sc__law_times : FnScope ["one", "two", "total", "k", "m", "number"] ["one", "two"] (defScope s__law_times) := ⟨rfl, rfl, rfl, by decide +kernel, rfl, by decide +kernel, by decide +kernel⟩
def R__law_times (dd : List PyData) (r : RS) : Prop := ∃ (xs : (List Int)) (ys : (List Int)), dd = [((eL PyData.int) xs), ((eL PyData.int) ys)] ∧ (xs.length ≤ 1000 ∧ ys.length ≤ 1000) ∧ (Sml xs) ∧ (Sml ys) ∧ r = .own ((ltimes xs ys).map PyData.int)
theorem ok__law_times {P : Program} {w : World} {K : KF} {mg : Str → Option Value} {base : Heap} {k : Nat} (B : Bt mg) (D__law_plus : Def P w K mg base k "_law_plus" (spD K 2 R__law_plus)) (a : At K mg "_law_times" s__law_times ["one", "two"]) : Def P w K mg base (k + 1) "_law_times" (spD K 2 R__law_times) := by
  have nd := sc__law_times.nd
  refine a.def fun f fd F => def_ok F sc__law_times fun cdv A outer s H E ds r hr hl hR => ?_
  obtain ⟨xs, ys, rfl, hp1, hp2, hp3, rfl⟩ := hR
  show PSs _ _ (tS K [.dat ((eL PyData.int) xs), .dat ((eL PyData.int) ys), .no, .no, .no, .no] _)
  refine s_then (s_setO 2 nd rfl o_nil rfl) ?_
  refine s_env (env' := [_, _, _, _, _, _]) rfl ?_
  refine c_forRN (j := 3) (fun i => [(2, .own (dI (iter (lt_ xs ys) [] i))), (3, .no)]) PassesOwn.never B.range (e_lenG (enc := PyData.int) B.len (l_e (dv 0 rfl))) (by walk_at "d3") nd rfl ⟨.inr rfl, ⟨.inr rfl, ⟨.inr (by
          walk_at "start"), ⟨.inl rfl, ⟨.inr rfl, ⟨.inr rfl, trivial⟩⟩⟩⟩⟩⟩ (fun i1 hi1 => ?_) ?_
  · have hl1 := lt_len xs ys i1
    have hl2 := ltI_len xs ys i1
    refine s_env (env' := [_, _, _, _, _, _]) rfl ?_
    refine s_then (s_setO 2 nd rfl (o_callH D__law_plus hr (a_cons (m := false) (e_l (ov 2 rfl)) (a_cons (m := false) (e_o (o_catG (enc := PyData.int) (l_o (o_lcTA (enc := (fun z => (fun (k : Nat) => PyData.int (k : Int)) z)) (encB := PyData.int) (own := [("m", 4)]) (g := gName 4) (ix := [4]) (f := (fun z env => (env.set 4 (.dat ((fun (k : Nat) => PyData.int (k : Int)) z))))) nd (i_rngN B.range (dv 3 rfl) (by walk_at "d3")) (by walk_at "len") (by show blkC ["one", "two", "total", "k", "m", "number"] (defScope s__law_times) _ [("m", 4)] = true; decide +kernel) (fun s H C cl fp => (pg_name (i := 4) nd rfl (by first | exact .inl rfl | exact .inr rfl))) (fun z hz => asg_name) (by decide) (fun z hz s H C cl fp => e_int))) (l_o (o_repB (enc := PyData.int) (l_o (o_lcTA (enc := PyData.int) (encB := PyData.int) (own := [("number", 5)]) (g := gName 5) (ix := [5]) (f := (fun z env => (env.set 5 (.dat (.int z))))) nd (i_list (dv 1 rfl)) (by walk_at "len") (by show blkC ["one", "two", "total", "k", "m", "number"] (defScope s__law_times) _ [("number", 5)] = true; decide +kernel) (fun s H C cl fp => (pg_name (i := 5) nd rfl (by first | exact .inl rfl | exact .inr rfl))) (fun z hz => asg_name) (by decide) (fun z hz s H C cl fp => (e_mul (e_ixI (l_e (dv 0 rfl)) (dv 3 rfl) (by walk_at "ix")) (dv 5 rfl) (by
            exact Sm.mulW (hp2.get _) (hp3 _ hz) (by decide)))))) (e_intB B.int (c_neI (e_ixI (l_e (dv 0 rfl)) (dv 3 rfl) (by walk_at "ix")) e_int).1) (by walk_at "len"))) (by walk_at "len"))) (a_nil (m := false)))) rfl ⟨_, _, rfl, (by
            have hl3 : (ltI xs ys i1).length ≤ 100000 := Nat.le_trans hl2 (by omega)
            exact ⟨by omega, hl3⟩), rfl⟩ (by walk_at "scal")) rfl) ?_
    refine s_env (env' := [_, _, _, _, _, _]) rfl ?_
    refine s_nil ⟨.inr rfl, ⟨.inr rfl, ⟨.inr (by
            rfl), ⟨.inl rfl, ⟨.inr rfl, ⟨.inr rfl, trivial⟩⟩⟩⟩⟩⟩
  refine s_env (env' := [_, _, _, _, _, _]) rfl ?_
  exact s_last (s_retV 2 rfl (by first | exact .inl rfl | exact .inr (.inl rfl)) rfl (by walk_at "RET"))
/-! ### _law_value -/
abbrev s__law_value : Stmt := topS 18
theorem sc__law_value : FnScope ["one", "at", "total", "power", "number"] ["one", "at"] (defScope s__law_value) := ⟨rfl, rfl, rfl, by decide +kernel, rfl, by decide +kernel, by decide +kernel⟩
def R__law_value (dd : List PyData) (r : RS) : Prop := ∃ (xs : (List Int)) (u : Int), dd = [((eL PyData.int) xs), (.int u)] ∧ (xs.length ≤ 1000 ∧ -1024 < u ∧ u < 1024) ∧ (Sml xs) ∧ r = .dat (.int (lvalue xs u))
theorem ok__law_value {P : Program} {w : World} {K : KF} {mg : Str → Option Value} {base : Heap} {k : Nat} (B : Bt mg) (a : At K mg "_law_value" s__law_value ["one", "at"]) : Def P w K mg base (k + 1) "_law_value" (spD K 2 R__law_value) := by
  have nd := sc__law_value.nd
  refine a.def fun f fd F => def_ok F sc__law_value fun cdv A outer s H E ds r hr hl hR => ?_
  obtain ⟨xs, u, rfl, hp1, hp2, rfl⟩ := hR
  show PSs _ _ (tS K [.dat ((eL PyData.int) xs), .dat (.int u), .no, .no, .no] _)
  refine s_then (s_set 2 nd rfl e_int rfl) ?_
  refine s_env (env' := [_, _, _, _, _]) rfl ?_
  refine s_then (s_set 3 nd rfl e_int rfl) ?_
  refine s_env (env' := [_, _, _, _, _]) rfl ?_
  refine c_forL (enc := PyData.int) (j := 4) (fun i => [(2, .dat (.int (itl (lv u) (0, 1) xs i).1)), (3, .dat (.int (itl (lv u) (0, 1) xs i).2)), (4, .no)]) PassesOwn.never (dv 0 rfl) nd rfl ⟨.inr rfl, ⟨.inr rfl, ⟨.inr (by
          walk_at "start"), ⟨.inr (by
          walk_at "start"), ⟨.inl rfl, trivial⟩⟩⟩⟩⟩ (fun i1 z1 hz1 => ?_) ?_
  · have hi1 := (List.getElem?_eq_some_iff.mp hz1).1
    have hpw := lv_pow u hp1.2 xs i1 (by omega)
    have hu : Sm 10 u := Sm.of (b := 1024) hp1.2 (by decide)
    refine s_env (env' := [_, _, _, _, _]) rfl ?_
    refine s_then (s_set 2 nd rfl (e_add (dv 2 rfl) (e_mul (dv 4 rfl) (dv 3 rfl) (by
            first | exact Sm.mulW (hp2 _ (List.mem_of_getElem? hz1)) hpw (by omega) | exact Sm.mulW hpw hu (by omega)))) rfl) ?_
    refine s_env (env' := [_, _, _, _, _]) rfl ?_
    refine s_then (s_set 3 nd rfl (e_mul (dv 3 rfl) (dv 1 rfl) (by
            first | exact Sm.mulW (hp2 _ (List.mem_of_getElem? hz1)) hpw (by omega) | exact Sm.mulW hpw hu (by omega))) rfl) ?_
    refine s_env (env' := [_, _, _, _, _]) rfl ?_
    refine s_nil ⟨.inr rfl, ⟨.inr rfl, ⟨.inr (by
            rw [itl_succ hz1]; rfl), ⟨.inr (by
            rw [itl_succ hz1]; rfl), ⟨.inl rfl, trivial⟩⟩⟩⟩⟩
  refine s_env (env' := [_, _, _, _, _]) rfl ?_
  rw [itl_all]
  exact s_last (s_ret (dv 2 rfl) (by walk_at "RET"))
/-! ### _law_drawn -/
abbrev s__law_drawn : Stmt := topS 19
theorem sc__law_drawn : FnScope ["draws", "first", "step", "k"] ["draws", "first"] (defScope s__law_drawn) := ⟨rfl, rfl, rfl, by decide +kernel, rfl, by decide +kernel, by decide +kernel⟩
def R__law_drawn (dd : List PyData) (r : RS) : Prop := ∃ (ds : (List Int)) (u : Int), dd = [((eL PyData.int) ds), (.int u)] ∧ (0 ≤ u) ∧ r = .own ((drawn ds u).map PyData.int)
theorem ok__law_drawn {P : Program} {w : World} {K : KF} {mg : Str → Option Value} {base : Heap} {k : Nat} (B : Bt mg) (D__law_poly : Def P w K mg base k "_law_poly" (spD K 3 R__law_poly)) (D__law_at : Def P w K mg base k "_law_at" (spD K 3 R__law_at)) (a : At K mg "_law_drawn" s__law_drawn ["draws", "first"]) : Def P w K mg base (k + 1) "_law_drawn" (spD K 2 R__law_drawn) := by
  have nd := sc__law_drawn.nd
  refine a.def fun f fd F => def_ok F sc__law_drawn fun cdv A outer s H E ds r hr hl hR => ?_
  obtain ⟨ds, u, rfl, hp1, rfl⟩ := hR
  have hc := lawAt_bd ds (u + 1) 999 (by decide)
  show PSs _ _ (tS K [.dat ((eL PyData.int) ds), .dat (.int u), .no, .no] _)
  refine s_fork (s_if (c_eqI (m := true) (e_call D__law_at hr (a_cons (m := true) (dv 0 rfl) (a_cons (m := true) (dv 1 rfl) (a_cons (m := true) e_int (a_nil (m := true))))) rfl ⟨_, _, _, rfl, (by walk_at "PRE"), rfl⟩) e_int).2 (fun hb108 => ?_) (fun hb108 => ?_))
  · walk_at "hb"
    refine s_then (s_set 2 nd rfl (e_add e_int (e_call D__law_at hr (a_cons (m := true) (dv 0 rfl) (a_cons (m := true) (e_add (dv 1 rfl) e_int) (a_cons (m := true) e_int (a_nil (m := true))))) rfl ⟨_, _, _, rfl, (by walk_at "PRE"), rfl⟩)) rfl) ?_
    refine s_env (env' := [_, _, _, _]) rfl ?_
    exact s_last (s_retO (o_catG (enc := PyData.int) (l_o (o_lcTA (enc := (fun z => (fun (k : Nat) => PyData.int (k : Int)) z)) (encB := PyData.int) (own := [("k", 3)]) (g := gName 3) (ix := [3]) (f := (fun z env => (env.set 3 (.dat ((fun (k : Nat) => PyData.int (k : Int)) z))))) nd (i_rngN B.range e_int (by walk_at "d3")) (by walk_at "len") (by show blkC ["draws", "first", "step", "k"] (defScope s__law_drawn) _ [("k", 3)] = true; decide +kernel) (fun s H C cl fp => (pg_name (i := 3) nd rfl (by first | exact .inl rfl | exact .inr rfl))) (fun z hz => asg_name) (by decide) (fun z hz s H C cl fp => (e_sub (e_mod (e_intI B.int (e_add (e_mul (e_mul (dv 2 rfl) (dv 3 rfl) (by
            first | exact Sm.mulW (a := 40) (b := 40) (Sm.of (b := 1000) (by omega) (by decide)) (Sm.of (b := 1000) (by simp at hz; omega) (by decide)) (by decide) | exact Sm.mulW (a := 40) (b := 40) ((Sm.of (n := 10) (b := 1001) (by omega) (by decide)).mul (Sm.of (n := 6) (b := 41) (by simp at hz; omega) (by decide)) |>.up (by decide)) (Sm.of (b := 1000) (by simp at hz; omega) (by decide)) (by decide) | exact Sm.mulW (a := 40) (b := 40) (Sm.of (b := 1000) (by omega) (by decide)) (Sm.of (b := 1000) (by have := lawAt_bd ds (u + 2) 2 (by decide); omega) (by decide)) (by decide))) (dv 3 rfl) (by
            first | exact Sm.mulW (a := 40) (b := 40) (Sm.of (b := 1000) (by omega) (by decide)) (Sm.of (b := 1000) (by simp at hz; omega) (by decide)) (by decide) | exact Sm.mulW (a := 40) (b := 40) ((Sm.of (n := 10) (b := 1001) (by omega) (by decide)).mul (Sm.of (n := 6) (b := 41) (by simp at hz; omega) (by decide)) |>.up (by decide)) (Sm.of (b := 1000) (by simp at hz; omega) (by decide)) (by decide) | exact Sm.mulW (a := 40) (b := 40) (Sm.of (b := 1000) (by omega) (by decide)) (Sm.of (b := 1000) (by have := lawAt_bd ds (u + 2) 2 (by decide); omega) (by decide)) (by decide))) (e_fdiv (dv 3 rfl) e_int (by walk_at "d3")))) e_int (by walk_at "d3")) e_int)))) (l_o (o_list (a_consG (enc := PyData.int) (e_sub e_int (e_mul e_int (e_call D__law_at hr (a_cons (m := true) (dv 0 rfl) (a_cons (m := true) (e_add (dv 1 rfl) e_int) (a_cons (m := true) e_int (a_nil (m := true))))) rfl ⟨_, _, _, rfl, (by walk_at "PRE"), rfl⟩) (by
            first | exact Sm.mulW (a := 40) (b := 40) (Sm.of (b := 1000) (by omega) (by decide)) (Sm.of (b := 1000) (by simp at hz; omega) (by decide)) (by decide) | exact Sm.mulW (a := 40) (b := 40) ((Sm.of (n := 10) (b := 1001) (by omega) (by decide)).mul (Sm.of (n := 6) (b := 41) (by simp at hz; omega) (by decide)) |>.up (by decide)) (Sm.of (b := 1000) (by simp at hz; omega) (by decide)) (by decide) | exact Sm.mulW (a := 40) (b := 40) (Sm.of (b := 1000) (by omega) (by decide)) (Sm.of (b := 1000) (by have := lawAt_bd ds (u + 2) 2 (by decide); omega) (by decide)) (by decide)))) (a_nilG (enc := PyData.int))) (by walk_at "len"))) (by walk_at "len")) (by
            unfold drawn
            walk_at "IFS"))
  · walk_at "hb"
    refine s_nil ?_
    exact s_last (s_retO (o_call D__law_poly hr (a_cons (m := true) (dv 0 rfl) (a_cons (m := true) (e_add (dv 1 rfl) e_int) (a_cons (m := true) e_int (a_nil (m := true))))) rfl ⟨_, _, _, rfl, (by walk_at "PRE"), rfl⟩) (by
            unfold drawn
            walk_at "IFS"))
/-! ### law -/
abbrev s_law : Stmt := topS 20
theorem sc_law : FnScope ["script", "draws", "one", "two", "kept", "number", "power", "at", "due", "turn", "loose", "short", "told", "each", "k", "part"] ["script"] (defScope s_law) := ⟨rfl, rfl, rfl, by decide +kernel, rfl, by decide +kernel, by decide +kernel⟩
def R_law (ns : List Int) (r : RS) : Prop := ns.length ≤ 63 ∧ r = .dat (.bool true)
theorem ok_law {P : Program} {w : World} {K : KF} {mg : Str → Option Value} {base : Heap} {k : Nat} {f : Addr} {fd : FuncData} (B : Bt mg) (D__law_draws : Def P w K mg base k "_law_draws" (spScr K R__law_draws)) (D__law_drawn : Def P w K mg base k "_law_drawn" (spD K 2 R__law_drawn)) (D__law_number : Def P w K mg base k "_law_number" (spD K 2 R__law_number)) (D__law_at : Def P w K mg base k "_law_at" (spD K 3 R__law_at)) (D__law_plus : Def P w K mg base k "_law_plus" (spD K 2 R__law_plus)) (D_trimmed : Def P w K mg base k "trimmed" (spD K 1 R_trimmed)) (D__law_times : Def P w K mg base k "_law_times" (spD K 2 R__law_times)) (D_plus : Def P w K mg base k "plus" (spD K 2 R_plus)) (D_times : Def P w K mg base k "times" (spD K 2 R_times)) (D_scaled : Def P w K mg base k "scaled" (spD K 2 R_scaled)) (D_raised : Def P w K mg base k "raised" (spD K 2 R_raised)) (D__law_is_integer : Def P w K mg base k "_law_is_integer" (spD K 1 R__law_is_integer)) (D_degree : Def P w K mg base k "degree" (spD K 1 R_degree)) (D_value : Def P w K mg base k "value" (spD K 2 R_value)) (D__law_value : Def P w K mg base k "_law_value" (spD K 2 R__law_value)) (D__law_is_poly : Def P w K mg base k "_law_is_poly" (spD K 1 R__law_is_poly)) (D_is_polynomial : Def P w K mg base k "is_polynomial" (spD K 1 R_is_polynomial)) (F : Fn K "law" "law" s_law f fd) : FnOk P w K mg base CX0 (k + 1) f fd ["script"] (spScr K R_law) := by
  have nd := sc_law.nd
  refine def_scr F sc_law rfl fun cdv A outer s H E ns r hr hR => ?_
  have hR : _ ∧ r = _ := hR
  obtain ⟨h63, rfl⟩ := hR
  obtain ⟨l1, s1, p1⟩ := drawn_ok (draws ns) 0 (by decide)
  obtain ⟨l2, s2, p2⟩ := drawn_ok (draws ns) 14 (by decide)
  have hn := num_sm (draws ns) 28
  have hpw := lawAt_bd (draws ns) 30 41 (by decide)
  have hat := lawAt_bd (draws ns) 31 2001 (by decide)
  have h32 := lawAt_bd (draws ns) 32 4 (by decide)
  have h33 := lawAt_bd (draws ns) 33 3 (by decide)
  have h34 := lawAt_bd (draws ns) 34 2 (by decide)
  have h35 := lawAt_bd (draws ns) 35 3 (by decide)
  show PSs _ _ (tS K [.scr ns, .no, .no, .no, .no, .no, .no, .no, .no, .no, .no, .no, .no, .no, .no, .no] _)
  refine s_then (s_set 1 nd rfl (e_o (o_callScrD' 0 D__law_draws hr rfl rfl)) rfl) ?_
  refine s_env (env' := [_, _, _, _, _, _, _, _, _, _, _, _, _, _, _, _]) rfl ?_
  refine s_then (s_set 2 nd rfl (e_o (o_call D__law_drawn hr (a_cons (m := true) (dv 1 rfl) (a_cons (m := true) e_int (a_nil (m := true)))) rfl ⟨_, _, rfl, (by
          first | assumption | omega | exact ⟨by omega, by omega⟩ | exact Nat.le_trans (told_len l1 l2 hpw z hz) (by decide) | exact ⟨Nat.le_trans hv_loose (by decide), by simp⟩ | exact Nat.le_trans (trim_len _) (Nat.le_trans hv_loose (by decide))), rfl⟩)) rfl) ?_
  refine s_env (env' := [_, _, _, _, _, _, _, _, _, _, _, _, _, _, _, _]) rfl ?_
  refine s_then (s_set 3 nd rfl (e_o (o_call D__law_drawn hr (a_cons (m := true) (dv 1 rfl) (a_cons (m := true) e_int (a_nil (m := true)))) rfl ⟨_, _, rfl, (by
          first | assumption | omega | exact ⟨by omega, by omega⟩ | exact Nat.le_trans (told_len l1 l2 hpw z hz) (by decide) | exact ⟨Nat.le_trans hv_loose (by decide), by simp⟩ | exact Nat.le_trans (trim_len _) (Nat.le_trans hv_loose (by decide))), rfl⟩)) rfl) ?_
  refine s_env (env' := [_, _, _, _, _, _, _, _, _, _, _, _, _, _, _, _]) rfl ?_
  generalize drawn (draws ns) 0 = O at *
  generalize drawn (draws ns) 14 = W at *
  refine s_then (s_set 4 nd rfl (e_tup2 (f := (eL PyData.int)) (g := (eL PyData.int)) (e_o (o_listOf B.list (l_e (dv 2 rfl)))) (e_o (o_listOf B.list (l_e (dv 3 rfl))))) rfl) ?_
  refine s_env (env' := [_, _, _, _, _, _, _, _, _, _, _, _, _, _, _, _]) rfl ?_
  refine s_then (s_set 5 nd rfl (e_call D__law_number hr (a_cons (m := true) (dv 1 rfl) (a_cons (m := true) e_int (a_nil (m := true)))) rfl ⟨_, _, rfl, (by
          first | assumption | omega | exact ⟨by omega, by omega⟩ | exact Nat.le_trans (told_len l1 l2 hpw z hz) (by decide) | exact ⟨Nat.le_trans hv_loose (by decide), by simp⟩ | exact Nat.le_trans (trim_len _) (Nat.le_trans hv_loose (by decide))), rfl⟩) rfl) ?_
  refine s_env (env' := [_, _, _, _, _, _, _, _, _, _, _, _, _, _, _, _]) rfl ?_
  generalize num (draws ns) 28 = n at *
  refine s_then (s_set 6 nd rfl (e_call D__law_at hr (a_cons (m := true) (dv 1 rfl) (a_cons (m := true) e_int (a_cons (m := true) e_int (a_nil (m := true))))) rfl ⟨_, _, _, rfl, (by
          first | assumption | omega | exact ⟨by omega, by omega⟩ | exact Nat.le_trans (told_len l1 l2 hpw z hz) (by decide) | exact ⟨Nat.le_trans hv_loose (by decide), by simp⟩ | exact Nat.le_trans (trim_len _) (Nat.le_trans hv_loose (by decide))), rfl⟩) rfl) ?_
  refine s_env (env' := [_, _, _, _, _, _, _, _, _, _, _, _, _, _, _, _]) rfl ?_
  generalize lawAt (draws ns) 30 41 = p at *
  refine s_then (s_set 7 nd rfl (e_sub (e_call D__law_at hr (a_cons (m := true) (dv 1 rfl) (a_cons (m := true) e_int (a_cons (m := true) e_int (a_nil (m := true))))) rfl ⟨_, _, _, rfl, (by
          first | assumption | omega | exact ⟨by omega, by omega⟩ | exact Nat.le_trans (told_len l1 l2 hpw z hz) (by decide) | exact ⟨Nat.le_trans hv_loose (by decide), by simp⟩ | exact Nat.le_trans (trim_len _) (Nat.le_trans hv_loose (by decide))), rfl⟩) e_int) rfl) ?_
  refine s_env (env' := [_, _, _, _, _, _, _, _, _, _, _, _, _, _, _, _]) rfl ?_
  generalize lawAt (draws ns) 31 2001 = u at *
  refine s_then (s_setO 8 nd rfl (o_list (a_consG (enc := (eL PyData.int)) (e_o (o_call D__law_plus hr (a_cons (m := true) (dv 2 rfl) (a_cons (m := true) (dv 3 rfl) (a_nil (m := true)))) rfl ⟨_, _, rfl, (by
          first | assumption | omega | exact ⟨by omega, by omega⟩ | exact Nat.le_trans (told_len l1 l2 hpw z hz) (by decide) | exact ⟨Nat.le_trans hv_loose (by decide), by simp⟩ | exact Nat.le_trans (trim_len _) (Nat.le_trans hv_loose (by decide))), rfl⟩)) (a_consG (enc := (eL PyData.int)) (e_o (o_call D__law_times hr (a_cons (m := true) (dv 2 rfl) (a_cons (m := true) (dv 3 rfl) (a_nil (m := true)))) rfl ⟨_, _, rfl, (by
          first | assumption | omega | exact ⟨by omega, by omega⟩ | exact Nat.le_trans (told_len l1 l2 hpw z hz) (by decide) | exact ⟨Nat.le_trans hv_loose (by decide), by simp⟩ | exact Nat.le_trans (trim_len _) (Nat.le_trans hv_loose (by decide))), (by
          first | assumption | omega | exact ⟨by omega, by omega⟩ | exact Nat.le_trans (told_len l1 l2 hpw z hz) (by decide) | exact ⟨Nat.le_trans hv_loose (by decide), by simp⟩ | exact Nat.le_trans (trim_len _) (Nat.le_trans hv_loose (by decide))), (by
          first | assumption | omega | exact ⟨by omega, by omega⟩ | exact Nat.le_trans (told_len l1 l2 hpw z hz) (by decide) | exact ⟨Nat.le_trans hv_loose (by decide), by simp⟩ | exact Nat.le_trans (trim_len _) (Nat.le_trans hv_loose (by decide))), rfl⟩)) (a_consG (enc := (eL PyData.int)) (e_o (o_repB (enc := PyData.int) (l_o (o_lcTA (enc := PyData.int) (encB := PyData.int) (own := [("part", 15)]) (g := gName 15) (ix := [15]) (f := (fun z env => (env.set 15 (.dat (.int z))))) nd (i_list (dv 2 rfl)) (by walk_at "len") (by show blkC ["script", "draws", "one", "two", "kept", "number", "power", "at", "due", "turn", "loose", "short", "told", "each", "k", "part"] (defScope s_law) _ [("part", 15)] = true; decide +kernel) (fun s H C cl fp => (pg_name (i := 15) nd rfl (by first | exact .inl rfl | exact .inr rfl))) (fun z hz => asg_name) (by decide) (fun z hz s H C cl fp => (e_mul (dv 5 rfl) (dv 15 rfl) (by
          first | exact Sm.mulW hn (s1 _ hz) (by decide) | exact Sm.mulW (a := 10) (b := 10) (Sm.of (b := 1000) (by omega) (by decide)) (by split <;> (unfold Sm; decide)) (by decide)))))) (e_intB B.int (c_neI (dv 5 rfl) e_int).1) (by walk_at "len"))) (a_nilG (enc := (eL PyData.int)))))) (by walk_at "len")) rfl) ?_
  refine s_env (env' := [_, _, _, _, _, _, _, _, _, _, _, _, _, _, _, _]) rfl ?_
  refine s_then (s_appG (enc := (eL PyData.int)) 8 rfl (e_o (o_catG (enc := PyData.int) (l_o (o_lcTA (enc := (fun z => (fun (k : Nat) => PyData.int (k : Int)) z)) (encB := PyData.int) (own := [("k", 14)]) (g := gName 14) (ix := [14]) (f := (fun z env => (env.set 14 (.dat ((fun (k : Nat) => PyData.int (k : Int)) z))))) nd (i_rngN B.range (e_mul (dv 6 rfl) (e_intB B.int (c_neG (enc := (eL PyData.int)) (m1 := true) (m2 := true) (eqL eqI) (shL shI) (by decide) hr.units (dv 2 rfl) (e_o (o_nilG (enc := PyData.int)))).1) (by
          first | exact Sm.mulW hn (s1 _ hz) (by decide) | exact Sm.mulW (a := 10) (b := 10) (Sm.of (b := 1000) (by omega) (by decide)) (by split <;> (unfold Sm; decide)) (by decide))) (by walk_at "d3")) (by walk_at "len") (by show blkC ["script", "draws", "one", "two", "kept", "number", "power", "at", "due", "turn", "loose", "short", "told", "each", "k", "part"] (defScope s_law) _ [("k", 14)] = true; decide +kernel) (fun s H C cl fp => (pg_name (i := 14) nd rfl (by first | exact .inl rfl | exact .inr rfl))) (fun z hz => asg_name) (by decide) (fun z hz s H C cl fp => e_int))) (l_e (dv 2 rfl)) (by walk_at "len"))) (by
          first | (simp only [List.length_cons, List.length_nil]; rw [PySem.sizeLine_eq]; decide) | exact Nat.lt_of_le_of_lt (trim_len _) (Nat.lt_of_le_of_lt hv_loose (by rw [PySem.sizeLine_eq]; decide)) | (rw [PySem.sizeLine_eq]; decide)) rfl) ?_
  refine s_env (env' := [_, _, _, _, _, _, _, _, _, _, _, _, _, _, _, _]) rfl ?_
  refine s_frz (i := 8) rfl ?_
  refine c_forR (j := 9) (fun i => [(12, .no), (13, .no), (9, .no)]) PassesOwn.never B.range e_int (by walk_at "d3") nd rfl ⟨.inr rfl, ⟨.inr rfl, ⟨.inr rfl, ⟨.inr rfl, ⟨.inr rfl, ⟨.inr rfl, ⟨.inr rfl, ⟨.inr rfl, ⟨.inr rfl, ⟨.inl rfl, ⟨.inr rfl, ⟨.inr rfl, ⟨.inl rfl, ⟨.inl rfl, ⟨.inr rfl, ⟨.inr rfl, trivial⟩⟩⟩⟩⟩⟩⟩⟩⟩⟩⟩⟩⟩⟩⟩⟩ (fun i1 hi1 => ?_) ?_
  · skip
    refine s_env (env' := [_, _, _, _, _, _, _, _, _, _, _, _, _, _, _, _]) rfl ?_
    refine c_junkG (enc := PyData.int) (i := 12) (j := 13) nd PassesOwn.never rfl rfl (by decide) (by simp [setAll]) (by simp [setAll]) (ao_consG (enc := PyData.int) (o_call D_plus hr (a_cons (m := true) (dv 2 rfl) (a_cons (m := true) (dv 3 rfl) (a_nil (m := true)))) rfl ⟨_, _, rfl, (by
            first | assumption | omega | exact ⟨by omega, by omega⟩ | exact Nat.le_trans (told_len l1 l2 hpw z hz) (by decide) | exact ⟨Nat.le_trans hv_loose (by decide), by simp⟩ | exact Nat.le_trans (trim_len _) (Nat.le_trans hv_loose (by decide))), rfl⟩) (ao_consG (enc := PyData.int) (o_call D_times hr (a_cons (m := true) (dv 2 rfl) (a_cons (m := true) (dv 3 rfl) (a_nil (m := true)))) rfl ⟨_, _, rfl, (by
            first | assumption | omega | exact ⟨by omega, by omega⟩ | exact Nat.le_trans (told_len l1 l2 hpw z hz) (by decide) | exact ⟨Nat.le_trans hv_loose (by decide), by simp⟩ | exact Nat.le_trans (trim_len _) (Nat.le_trans hv_loose (by decide))), (by
            first | assumption | omega | exact ⟨by omega, by omega⟩ | exact Nat.le_trans (told_len l1 l2 hpw z hz) (by decide) | exact ⟨Nat.le_trans hv_loose (by decide), by simp⟩ | exact Nat.le_trans (trim_len _) (Nat.le_trans hv_loose (by decide))), (by
            first | assumption | omega | exact ⟨by omega, by omega⟩ | exact Nat.le_trans (told_len l1 l2 hpw z hz) (by decide) | exact ⟨Nat.le_trans hv_loose (by decide), by simp⟩ | exact Nat.le_trans (trim_len _) (Nat.le_trans hv_loose (by decide))), rfl⟩) (ao_consG (enc := PyData.int) (o_call D_scaled hr (a_cons (m := true) (dv 2 rfl) (a_cons (m := true) (dv 5 rfl) (a_nil (m := true)))) rfl ⟨_, _, rfl, (by
            first | assumption | omega | exact ⟨by omega, by omega⟩ | exact Nat.le_trans (told_len l1 l2 hpw z hz) (by decide) | exact ⟨Nat.le_trans hv_loose (by decide), by simp⟩ | exact Nat.le_trans (trim_len _) (Nat.le_trans hv_loose (by decide))), (by
            first | assumption | omega | exact ⟨by omega, by omega⟩ | exact Nat.le_trans (told_len l1 l2 hpw z hz) (by decide) | exact ⟨Nat.le_trans hv_loose (by decide), by simp⟩ | exact Nat.le_trans (trim_len _) (Nat.le_trans hv_loose (by decide))), (by
            first | assumption | omega | exact ⟨by omega, by omega⟩ | exact Nat.le_trans (told_len l1 l2 hpw z hz) (by decide) | exact ⟨Nat.le_trans hv_loose (by decide), by simp⟩ | exact Nat.le_trans (trim_len _) (Nat.le_trans hv_loose (by decide))), rfl⟩) (ao_consG (enc := PyData.int) (o_call D_raised hr (a_cons (m := true) (dv 2 rfl) (a_cons (m := true) (dv 6 rfl) (a_nil (m := true)))) rfl ⟨_, _, rfl, (by
            first | assumption | omega | exact ⟨by omega, by omega⟩ | exact Nat.le_trans (told_len l1 l2 hpw z hz) (by decide) | exact ⟨Nat.le_trans hv_loose (by decide), by simp⟩ | exact Nat.le_trans (trim_len _) (Nat.le_trans hv_loose (by decide))), (by
            first | assumption | omega | exact ⟨by omega, by omega⟩ | exact Nat.le_trans (told_len l1 l2 hpw z hz) (by decide) | exact ⟨Nat.le_trans hv_loose (by decide), by simp⟩ | exact Nat.le_trans (trim_len _) (Nat.le_trans hv_loose (by decide))), rfl⟩) (ao_nilG (enc := PyData.int)))))) ?_ (t_eq (t_w (w_or (c_neG (m := true) (enc := (eL (eL PyData.int))) (m1 := true) (m2 := true) (eqL (eqL eqI)) (shL (shL shI)) (by decide) hr.units (dv 12 rfl) (dv 8 rfl)).2 (fun hq => (w_or (t_not (t_val (e_allD B.all (l_o (o_lcTA (enc := (eL PyData.int)) (encB := PyData.bool) (own := [("each", 13)]) (g := gName 13) (ix := [13]) (f := (fun z env => (env.set 13 (.dat ((eL PyData.int) z))))) nd (i_list (dv 12 rfl)) (by walk_at "len") (by show blkC ["script", "draws", "one", "two", "kept", "number", "power", "at", "due", "turn", "loose", "short", "told", "each", "k", "part"] (defScope s_law) _ [("each", 13)] = true; decide +kernel) (fun s H C cl fp => (pg_name (i := 13) nd rfl (by first | exact .inl rfl | exact .inr rfl))) (fun z hz => asg_name) (by decide) (fun z hz s H C cl fp => (e_call D__law_is_poly hr (a_cons (m := true) (dv 13 rfl) (a_nil (m := true))) rfl ⟨_, rfl, (by
            first | assumption | omega | exact ⟨by omega, by omega⟩ | exact Nat.le_trans (told_len l1 l2 hpw z hz) (by decide) | exact ⟨Nat.le_trans hv_loose (by decide), by simp⟩ | exact Nat.le_trans (trim_len _) (Nat.le_trans hv_loose (by decide))), rfl⟩))))))) (fun hq => (w_one (c_neG (m := true) (enc := (eT2 (eL PyData.int) (eL PyData.int))) (m1 := true) (m2 := true) (eqT2 (eqL eqI) (eqL eqI)) (shT2 (shL shI) (shL shI)) (by decide) hr.units (e_tup2 (f := (eL PyData.int)) (g := (eL PyData.int)) (dv 2 rfl) (dv 3 rfl)) (dv 4 rfl)).2)))))) ?_) pe_int ?_
    · exact ⟨by simp, fun ds hd => Nat.le_trans (told_len l1 l2 hpw ds hd) (by decide)⟩
    · rw [told_P p1 p2, ← told_eq p1 p2]; simp
    refine s_env (env' := [_, _, _, _, _, _, _, _, _, _, _, _, _, _, _, _]) rfl ?_
    refine s_nil ⟨.inr rfl, ⟨.inr rfl, ⟨.inr rfl, ⟨.inr rfl, ⟨.inr rfl, ⟨.inr rfl, ⟨.inr rfl, ⟨.inr rfl, ⟨.inr rfl, ⟨.inl rfl, ⟨.inr rfl, ⟨.inr rfl, ⟨.inl rfl, ⟨.inl rfl, ⟨.inr rfl, ⟨.inr rfl, trivial⟩⟩⟩⟩⟩⟩⟩⟩⟩⟩⟩⟩⟩⟩⟩⟩
  refine s_env (env' := [_, _, _, _, _, _, _, _, _, _, _, _, _, _, _, _]) rfl ?_
  refine c_ifF (t_w (w_or (t_not (t_val (e_call D__law_is_integer hr (a_cons (m := true) (e_call D_degree hr (a_cons (m := true) (dv 2 rfl) (a_nil (m := true))) rfl ⟨_, rfl, rfl⟩) (a_nil (m := true))) rfl ⟨_, rfl, rfl⟩))) (fun hq => (w_or (c_neI (m := true) (e_call D_degree hr (a_cons (m := true) (dv 2 rfl) (a_nil (m := true))) rfl ⟨_, rfl, rfl⟩) (e_sub (e_lenG (enc := PyData.int) B.len (l_e (dv 2 rfl))) e_int)).2 (fun hq => (w_one (c_neI (m := true) (e_call D_degree hr (a_cons (m := true) (dv 3 rfl) (a_nil (m := true))) rfl ⟨_, rfl, rfl⟩) (e_sub (e_lenG (enc := PyData.int) B.len (l_e (dv 3 rfl))) e_int)).2)))))) ?_ ?_
  · simp
  refine c_ifF (t_w (w_or (c_neI (m := true) (e_call D_value hr (a_cons (m := true) (dv 2 rfl) (a_cons (m := true) (dv 7 rfl) (a_nil (m := true)))) rfl ⟨_, _, rfl, (by
          first | assumption | omega | exact ⟨by omega, by omega⟩ | exact Nat.le_trans (told_len l1 l2 hpw z hz) (by decide) | exact ⟨Nat.le_trans hv_loose (by decide), by simp⟩ | exact Nat.le_trans (trim_len _) (Nat.le_trans hv_loose (by decide))), rfl⟩) (e_call D__law_value hr (a_cons (m := true) (dv 2 rfl) (a_cons (m := true) (dv 7 rfl) (a_nil (m := true)))) rfl ⟨_, _, rfl, (by
          first | assumption | omega | exact ⟨by omega, by omega⟩ | exact Nat.le_trans (told_len l1 l2 hpw z hz) (by decide) | exact ⟨Nat.le_trans hv_loose (by decide), by simp⟩ | exact Nat.le_trans (trim_len _) (Nat.le_trans hv_loose (by decide))), (by
          first | assumption | omega | exact ⟨by omega, by omega⟩ | exact Nat.le_trans (told_len l1 l2 hpw z hz) (by decide) | exact ⟨Nat.le_trans hv_loose (by decide), by simp⟩ | exact Nat.le_trans (trim_len _) (Nat.le_trans hv_loose (by decide))), rfl⟩)).2 (fun hq => (w_one (c_neI (m := true) (e_call D_value hr (a_cons (m := true) (dv 3 rfl) (a_cons (m := true) (e_neg (dv 7 rfl)) (a_nil (m := true)))) rfl ⟨_, _, rfl, (by
          first | assumption | omega | exact ⟨by omega, by omega⟩ | exact Nat.le_trans (told_len l1 l2 hpw z hz) (by decide) | exact ⟨Nat.le_trans hv_loose (by decide), by simp⟩ | exact Nat.le_trans (trim_len _) (Nat.le_trans hv_loose (by decide))), rfl⟩) (e_call D__law_value hr (a_cons (m := true) (dv 3 rfl) (a_cons (m := true) (e_neg (dv 7 rfl)) (a_nil (m := true)))) rfl ⟨_, _, rfl, (by
          first | assumption | omega | exact ⟨by omega, by omega⟩ | exact Nat.le_trans (told_len l1 l2 hpw z hz) (by decide) | exact ⟨Nat.le_trans hv_loose (by decide), by simp⟩ | exact Nat.le_trans (trim_len _) (Nat.le_trans hv_loose (by decide))), (by
          first | assumption | omega | exact ⟨by omega, by omega⟩ | exact Nat.le_trans (told_len l1 l2 hpw z hz) (by decide) | exact ⟨Nat.le_trans hv_loose (by decide), by simp⟩ | exact Nat.le_trans (trim_len _) (Nat.le_trans hv_loose (by decide))), rfl⟩)).2)))) ?_ ?_
  · rw [lvalue_eq, lvalue_eq]; simp
  refine s_then (s_set 10 nd rfl (e_o (o_catG (enc := PyData.int) (l_o (o_catG (enc := PyData.int) (l_e (dv 2 rfl)) (l_o (o_lcTA (enc := (fun z => (fun (k : Nat) => PyData.int (k : Int)) z)) (encB := PyData.int) (own := [("k", 14)]) (g := gName 14) (ix := [14]) (f := (fun z env => (env.set 14 (.dat ((fun (k : Nat) => PyData.int (k : Int)) z))))) nd (i_rngN B.range (e_call D__law_at hr (a_cons (m := true) (dv 1 rfl) (a_cons (m := true) e_int (a_cons (m := true) e_int (a_nil (m := true))))) rfl ⟨_, _, _, rfl, (by
          first | assumption | omega | exact ⟨by omega, by omega⟩ | exact Nat.le_trans (told_len l1 l2 hpw z hz) (by decide) | exact ⟨Nat.le_trans hv_loose (by decide), by simp⟩ | exact Nat.le_trans (trim_len _) (Nat.le_trans hv_loose (by decide))), rfl⟩) (by walk_at "d3")) (by walk_at "len") (by show blkC ["script", "draws", "one", "two", "kept", "number", "power", "at", "due", "turn", "loose", "short", "told", "each", "k", "part"] (defScope s_law) _ [("k", 14)] = true; decide +kernel) (fun s H C cl fp => (pg_name (i := 14) nd rfl (by first | exact .inl rfl | exact .inr rfl))) (fun z hz => asg_name) (by decide) (fun z hz s H C cl fp => e_int))) (by walk_at "len"))) (l_o (o_to (enc := PyData.int) (l_o (o_list (a_consG (enc := PyData.int) (e_sub (e_call D__law_at hr (a_cons (m := true) (dv 1 rfl) (a_cons (m := true) e_int (a_cons (m := true) e_int (a_nil (m := true))))) rfl ⟨_, _, _, rfl, (by
          first | assumption | omega | exact ⟨by omega, by omega⟩ | exact Nat.le_trans (told_len l1 l2 hpw z hz) (by decide) | exact ⟨Nat.le_trans hv_loose (by decide), by simp⟩ | exact Nat.le_trans (trim_len _) (Nat.le_trans hv_loose (by decide))), rfl⟩) e_int) (a_nilG (enc := PyData.int))) (by walk_at "len"))) (e_call D__law_at hr (a_cons (m := true) (dv 1 rfl) (a_cons (m := true) e_int (a_cons (m := true) e_int (a_nil (m := true))))) rfl ⟨_, _, _, rfl, (by
          first | assumption | omega | exact ⟨by omega, by omega⟩ | exact Nat.le_trans (told_len l1 l2 hpw z hz) (by decide) | exact ⟨Nat.le_trans hv_loose (by decide), by simp⟩ | exact Nat.le_trans (trim_len _) (Nat.le_trans hv_loose (by decide))), rfl⟩) (by walk_at "d3"))) (by walk_at "len"))) rfl) ?_
  refine s_env (env' := [_, _, _, _, _, _, _, _, _, _, _, _, _, _, _, _]) rfl ?_
  refine s_then (s_set 10 nd rfl (e_o (o_catG (enc := PyData.int) (l_e (dv 10 rfl)) (l_o (o_lcTA (enc := (fun z => (fun (k : Nat) => PyData.int (k : Int)) z)) (encB := PyData.int) (own := [("k", 14)]) (g := gName 14) (ix := [14]) (f := (fun z env => (env.set 14 (.dat ((fun (k : Nat) => PyData.int (k : Int)) z))))) nd (i_rngN B.range (e_call D__law_at hr (a_cons (m := true) (dv 1 rfl) (a_cons (m := true) e_int (a_cons (m := true) e_int (a_nil (m := true))))) rfl ⟨_, _, _, rfl, (by
          first | assumption | omega | exact ⟨by omega, by omega⟩ | exact Nat.le_trans (told_len l1 l2 hpw z hz) (by decide) | exact ⟨Nat.le_trans hv_loose (by decide), by simp⟩ | exact Nat.le_trans (trim_len _) (Nat.le_trans hv_loose (by decide))), rfl⟩) (by walk_at "d3")) (by walk_at "len") (by show blkC ["script", "draws", "one", "two", "kept", "number", "power", "at", "due", "turn", "loose", "short", "told", "each", "k", "part"] (defScope s_law) _ [("k", 14)] = true; decide +kernel) (fun s H C cl fp => (pg_name (i := 14) nd rfl (by first | exact .inl rfl | exact .inr rfl))) (fun z hz => asg_name) (by decide) (fun z hz s H C cl fp => e_int))) (by walk_at "len"))) rfl) ?_
  refine s_env (env' := [_, _, _, _, _, _, _, _, _, _, _, _, _, _, _, _]) rfl ?_
  refine s_abs (enc := (eL PyData.int)) 10 rfl (fun z => z.length ≤ 100) (by simp; omega) fun v_loose hv_loose => ?_
  refine s_env (env' := [_, _, _, _, _, _, _, _, _, _, _, _, _, _, _, _]) rfl ?_
  refine s_then (s_set 11 nd rfl (e_o (o_call D__law_plus hr (a_cons (m := true) (dv 10 rfl) (a_cons (m := true) (e_o (o_nilG (enc := PyData.int))) (a_nil (m := true)))) rfl ⟨_, _, rfl, (by
          first | assumption | omega | exact ⟨by omega, by omega⟩ | exact Nat.le_trans (told_len l1 l2 hpw z hz) (by decide) | exact ⟨Nat.le_trans hv_loose (by decide), by simp⟩ | exact Nat.le_trans (trim_len _) (Nat.le_trans hv_loose (by decide))), rfl⟩)) rfl) ?_
  refine s_env (env' := [_, _, _, _, _, _, _, _, _, _, _, _, _, _, _, _]) rfl ?_
  refine s_then (s_setO 12 nd rfl (o_call D_trimmed hr (a_cons (m := true) (dv 10 rfl) (a_nil (m := true))) rfl ⟨_, rfl, rfl⟩) rfl) ?_
  refine s_env (env' := [_, _, _, _, _, _, _, _, _, _, _, _, _, _, _, _]) rfl ?_
  refine c_ifF (t_w (w_or (t_not (t_val (e_callH D__law_is_poly hr (a_cons (m := false) (e_l (ov 12 rfl)) (a_nil (m := false))) rfl ⟨_, rfl, (by
          first | assumption | omega | exact ⟨by omega, by omega⟩ | exact Nat.le_trans (told_len l1 l2 hpw z hz) (by decide) | exact ⟨Nat.le_trans hv_loose (by decide), by simp⟩ | exact Nat.le_trans (trim_len _) (Nat.le_trans hv_loose (by decide))), rfl⟩ rfl))) (fun hq => (w_or (c_neG (m := true) (enc := (eL PyData.int)) (m1 := false) (m2 := true) (eqL eqI) (shL shI) (by decide) hr.units (e_l (ov 12 rfl)) (dv 11 rfl)).2 (fun hq => (w_one (c_neS (m := true) (m1 := true) (m2 := true) (e_reprB B.repr (e_call D_is_polynomial hr (a_cons (m := true) (dv 10 rfl) (a_nil (m := true))) rfl ⟨_, rfl, rfl⟩)) (e_reprB B.repr (c_eqG (enc := (eL PyData.int)) (m1 := true) (m2 := true) (eqL eqI) (shL shI) (by decide) hr.units (dv 10 rfl) (dv 11 rfl)).1)).2)))))) ?_ ?_
  · rw [trim_P, short_eq, isP_trim v_loose]; simp
  refine s_then (s_appG (enc := PyData.int) 12 rfl e_int (by
          first | (simp only [List.length_cons, List.length_nil]; rw [PySem.sizeLine_eq]; decide) | exact Nat.lt_of_le_of_lt (trim_len _) (Nat.lt_of_le_of_lt hv_loose (by rw [PySem.sizeLine_eq]; decide)) | (rw [PySem.sizeLine_eq]; decide)) rfl) ?_
  refine s_env (env' := [_, _, _, _, _, _, _, _, _, _, _, _, _, _, _, _]) rfl ?_
  exact s_last (s_ret (e_and (c_eqG (enc := (eL PyData.int)) (m1 := true) (m2 := true) (eqL eqI) (shL shI) (by decide) hr.units (e_o (o_call D_trimmed hr (a_cons (m := true) (dv 10 rfl) (a_nil (m := true))) rfl ⟨_, rfl, rfl⟩)) (dv 11 rfl)).1 (fun hq => (e_and (c_isB (e_call D_is_polynomial hr (a_cons (m := true) (dv 2 rfl) (a_nil (m := true))) rfl ⟨_, rfl, rfl⟩) e_bl).1 (fun hq => (e_one (c_eqG (enc := (eT2 (eL PyData.int) (eL PyData.int))) (m1 := true) (m2 := true) (eqT2 (eqL eqI) (eqL eqI)) (shT2 (shL shI) (shL shI)) (by decide) hr.units (e_tup2 (f := (eL PyData.int)) (g := (eL PyData.int)) (dv 2 rfl) (dv 3 rfl)) (dv 4 rfl)).1))))) (by
          rw [short_eq, p1]; simp))
/-! ### the head: facts by names, the run -/
def dOf (x : Str) (i : Nat) : He.DefD := ⟨(x, none), x, x, defArgs (topS i), defBody (topS i), defScope (topS i), [], []⟩
def fnL : List He.DefD := [dOf "is_polynomial" 1, dOf "trimmed" 2, dOf "degree" 3, dOf "value" 4, dOf "plus" 5, dOf "times" 6, dOf "scaled" 7, dOf "raised" 8, dOf "_law_draws" 10, dOf "_law_at" 11, dOf "_law_is_integer" 12, dOf "_law_number" 13, dOf "_law_poly" 14, dOf "_law_is_poly" 15, dOf "_law_plus" 16, dOf "_law_times" 17, dOf "_law_value" 18, dOf "_law_drawn" 19, dOf "law" 20]
def faL : List He.Fa := [.glo "is_polynomial", .glo "trimmed", .glo "degree", .glo "value", .glo "plus", .glo "times", .glo "scaled", .glo "raised", .glo "_law_draws", .glo "_law_at", .glo "_law_is_integer", .glo "_law_number", .glo "_law_poly", .glo "_law_is_poly", .glo "_law_plus", .glo "_law_times", .glo "_law_value", .glo "_law_drawn", .glo "law", .free "len", .free "range", .free "list", .free "int", .free "abs", .free "max", .free "min", .free "all", .free "any", .free "isinstance", .free "bool", .free "repr", .free "sum", .free "sorted", .free "set", .free "str", .free "tuple", .free "enumerate", .free "zip", .free "reversed"]
abbrev RR : PySem.W.OpenRow := PySem.W.OpenLaw.row PySem.Challenge.rw_unsaidsizes_k00_polynomials
def looseL : List Str := ["is_polynomial", "trimmed", "degree", "value", "plus", "times", "scaled", "raised", "_law_draws", "_law_at", "_law_is_integer", "_law_number", "_law_poly", "_law_is_poly", "_law_plus", "_law_times", "_law_value", "_law_drawn"]
abbrev hk : PySem.W.Hook := He.hookD 4 faL fnL
def ob (s : PySem.W.SharedT) : He.AlD := He.obsDG 4 faL fnL (HandSHeadRun.getT s)
theorem ob_eq (s : PySem.W.SharedT) : ob s = hk.obs s.abs := He.obsDG_eq (HandSHeadRun.getT_eq s)
theorem run (w : World) : HandSHeadRun.RunEq RR (PySem.W.view RR.prog [20]) hk ob 2000 looseL w := by
  intro os
  kernel_rfl
theorem facts {P : Program} {w : World} {K : PySem.W.Frag} {h : Heap} {mg : Str → Option Value} {f : Addr} (X : K.In h) (G : h.Ns mainGlobals mg) (hfa : mg ("law" : Str) = some (.ref f)) (c : He.SaysD faL fnL K) :
    ∃ fd : FuncData, (∀ (s : Shared) (v : Value), BindsTo s fd ⟨[v], []⟩ [("script", v)]) ∧ ∀ base : Heap, K.In base → base.Ns mainGlobals mg → FnOk P w K mg base CX0 5 f fd ["script"] (spScr K R_law) := by
  have B : Bt mg := ⟨He.free_ok X G (c.fact 19 (f := .free "len") rfl), He.free_ok X G (c.fact 20 (f := .free "range") rfl), He.free_ok X G (c.fact 21 (f := .free "list") rfl), He.free_ok X G (c.fact 22 (f := .free "int") rfl), He.free_ok X G (c.fact 23 (f := .free "abs") rfl), He.free_ok X G (c.fact 24 (f := .free "max") rfl), He.free_ok X G (c.fact 25 (f := .free "min") rfl), He.free_ok X G (c.fact 26 (f := .free "all") rfl), He.free_ok X G (c.fact 27 (f := .free "any") rfl), He.free_ok X G (c.fact 28 (f := .free "isinstance") rfl), He.free_ok X G (c.fact 29 (f := .free "bool") rfl), He.free_ok X G (c.fact 30 (f := .free "repr") rfl), He.free_ok X G (c.fact 31 (f := .free "sum") rfl), He.free_ok X G (c.fact 32 (f := .free "sorted") rfl), He.free_ok X G (c.fact 33 (f := .free "set") rfl), He.free_ok X G (c.fact 34 (f := .free "str") rfl), He.free_ok X G (c.fact 35 (f := .free "tuple") rfl), He.free_ok X G (c.fact 36 (f := .free "enumerate") rfl), He.free_ok X G (c.fact 37 (f := .free "zip") rfl), He.free_ok X G (c.fact 38 (f := .free "reversed") rfl)⟩
  obtain ⟨fd0, F0⟩ := c.def_ 0 (d := dOf "is_polynomial" 1) rfl
  have A0 : At K mg "is_polynomial" s_is_polynomial ["numbers"] := ⟨⟨_, fd0, F0, He.glo_ok X G (c.fact 0 (f := .glo "is_polynomial") rfl), FunD.bindsN F0 fun _ _ _ _ _ _ us hl => match us, hl with | [_], _ => rfl⟩⟩
  obtain ⟨fd1, F1⟩ := c.def_ 1 (d := dOf "trimmed" 2) rfl
  have A1 : At K mg "trimmed" s_trimmed ["numbers"] := ⟨⟨_, fd1, F1, He.glo_ok X G (c.fact 1 (f := .glo "trimmed") rfl), FunD.bindsN F1 fun _ _ _ _ _ _ us hl => match us, hl with | [_], _ => rfl⟩⟩
  obtain ⟨fd2, F2⟩ := c.def_ 2 (d := dOf "degree" 3) rfl
  have A2 : At K mg "degree" s_degree ["one"] := ⟨⟨_, fd2, F2, He.glo_ok X G (c.fact 2 (f := .glo "degree") rfl), FunD.bindsN F2 fun _ _ _ _ _ _ us hl => match us, hl with | [_], _ => rfl⟩⟩
  obtain ⟨fd3, F3⟩ := c.def_ 3 (d := dOf "value" 4) rfl
  have A3 : At K mg "value" s_value ["one", "at"] := ⟨⟨_, fd3, F3, He.glo_ok X G (c.fact 3 (f := .glo "value") rfl), FunD.bindsN F3 fun _ _ _ _ _ _ us hl => match us, hl with | [_, _], _ => rfl⟩⟩
  obtain ⟨fd4, F4⟩ := c.def_ 4 (d := dOf "plus" 5) rfl
  have A4 : At K mg "plus" s_plus ["one", "two"] := ⟨⟨_, fd4, F4, He.glo_ok X G (c.fact 4 (f := .glo "plus") rfl), FunD.bindsN F4 fun _ _ _ _ _ _ us hl => match us, hl with | [_, _], _ => rfl⟩⟩
  obtain ⟨fd5, F5⟩ := c.def_ 5 (d := dOf "times" 6) rfl
  have A5 : At K mg "times" s_times ["one", "two"] := ⟨⟨_, fd5, F5, He.glo_ok X G (c.fact 5 (f := .glo "times") rfl), FunD.bindsN F5 fun _ _ _ _ _ _ us hl => match us, hl with | [_, _], _ => rfl⟩⟩
  obtain ⟨fd6, F6⟩ := c.def_ 6 (d := dOf "scaled" 7) rfl
  have A6 : At K mg "scaled" s_scaled ["one", "number"] := ⟨⟨_, fd6, F6, He.glo_ok X G (c.fact 6 (f := .glo "scaled") rfl), FunD.bindsN F6 fun _ _ _ _ _ _ us hl => match us, hl with | [_, _], _ => rfl⟩⟩
  obtain ⟨fd7, F7⟩ := c.def_ 7 (d := dOf "raised" 8) rfl
  have A7 : At K mg "raised" s_raised ["one", "k"] := ⟨⟨_, fd7, F7, He.glo_ok X G (c.fact 7 (f := .glo "raised") rfl), FunD.bindsN F7 fun _ _ _ _ _ _ us hl => match us, hl with | [_, _], _ => rfl⟩⟩
  obtain ⟨fd8, F8⟩ := c.def_ 8 (d := dOf "_law_draws" 10) rfl
  have A8 : At K mg "_law_draws" s__law_draws ["script"] := ⟨⟨_, fd8, F8, He.glo_ok X G (c.fact 8 (f := .glo "_law_draws") rfl), FunD.bindsN F8 fun _ _ _ _ _ _ us hl => match us, hl with | [_], _ => rfl⟩⟩
  obtain ⟨fd9, F9⟩ := c.def_ 9 (d := dOf "_law_at" 11) rfl
  have A9 : At K mg "_law_at" s__law_at ["draws", "k", "many"] := ⟨⟨_, fd9, F9, He.glo_ok X G (c.fact 9 (f := .glo "_law_at") rfl), FunD.bindsN F9 fun _ _ _ _ _ _ us hl => match us, hl with | [_, _, _], _ => rfl⟩⟩
  obtain ⟨fd10, F10⟩ := c.def_ 10 (d := dOf "_law_is_integer" 12) rfl
  have A10 : At K mg "_law_is_integer" s__law_is_integer ["actual"] := ⟨⟨_, fd10, F10, He.glo_ok X G (c.fact 10 (f := .glo "_law_is_integer") rfl), FunD.bindsN F10 fun _ _ _ _ _ _ us hl => match us, hl with | [_], _ => rfl⟩⟩
  obtain ⟨fd11, F11⟩ := c.def_ 11 (d := dOf "_law_number" 13) rfl
  have A11 : At K mg "_law_number" s__law_number ["draws", "k"] := ⟨⟨_, fd11, F11, He.glo_ok X G (c.fact 11 (f := .glo "_law_number") rfl), FunD.bindsN F11 fun _ _ _ _ _ _ us hl => match us, hl with | [_, _], _ => rfl⟩⟩
  obtain ⟨fd12, F12⟩ := c.def_ 12 (d := dOf "_law_poly" 14) rfl
  have A12 : At K mg "_law_poly" s__law_poly ["draws", "k", "most"] := ⟨⟨_, fd12, F12, He.glo_ok X G (c.fact 12 (f := .glo "_law_poly") rfl), FunD.bindsN F12 fun _ _ _ _ _ _ us hl => match us, hl with | [_, _, _], _ => rfl⟩⟩
  obtain ⟨fd13, F13⟩ := c.def_ 13 (d := dOf "_law_is_poly" 15) rfl
  have A13 : At K mg "_law_is_poly" s__law_is_poly ["actual"] := ⟨⟨_, fd13, F13, He.glo_ok X G (c.fact 13 (f := .glo "_law_is_poly") rfl), FunD.bindsN F13 fun _ _ _ _ _ _ us hl => match us, hl with | [_], _ => rfl⟩⟩
  obtain ⟨fd14, F14⟩ := c.def_ 14 (d := dOf "_law_plus" 16) rfl
  have A14 : At K mg "_law_plus" s__law_plus ["one", "two"] := ⟨⟨_, fd14, F14, He.glo_ok X G (c.fact 14 (f := .glo "_law_plus") rfl), FunD.bindsN F14 fun _ _ _ _ _ _ us hl => match us, hl with | [_, _], _ => rfl⟩⟩
  obtain ⟨fd15, F15⟩ := c.def_ 15 (d := dOf "_law_times" 17) rfl
  have A15 : At K mg "_law_times" s__law_times ["one", "two"] := ⟨⟨_, fd15, F15, He.glo_ok X G (c.fact 15 (f := .glo "_law_times") rfl), FunD.bindsN F15 fun _ _ _ _ _ _ us hl => match us, hl with | [_, _], _ => rfl⟩⟩
  obtain ⟨fd16, F16⟩ := c.def_ 16 (d := dOf "_law_value" 18) rfl
  have A16 : At K mg "_law_value" s__law_value ["one", "at"] := ⟨⟨_, fd16, F16, He.glo_ok X G (c.fact 16 (f := .glo "_law_value") rfl), FunD.bindsN F16 fun _ _ _ _ _ _ us hl => match us, hl with | [_, _], _ => rfl⟩⟩
  obtain ⟨fd17, F17⟩ := c.def_ 17 (d := dOf "_law_drawn" 19) rfl
  have A17 : At K mg "_law_drawn" s__law_drawn ["draws", "first"] := ⟨⟨_, fd17, F17, He.glo_ok X G (c.fact 17 (f := .glo "_law_drawn") rfl), FunD.bindsN F17 fun _ _ _ _ _ _ us hl => match us, hl with | [_, _], _ => rfl⟩⟩
  obtain ⟨fd18, F18⟩ := c.def_ 18 (d := dOf "law" 20) rfl
  have e := hfa.symm.trans (He.glo_ok X G (c.fact 18 (f := .glo "law") rfl))
  cases e
  have b := FunD.bindsA (ps := ["script"]) F18 fun _ _ _ _ _ _ us hl => match us, hl with | [_], _ => rfl
  refine ⟨fd18, fun s v => b s [v] rfl, fun base _ _ => ?_⟩
  have D_is_polynomial := ok_is_polynomial (P := P) (w := w) (base := base) (k := 0) B A0
  have D_trimmed := ok_trimmed (P := P) (w := w) (base := base) (k := 0) B A1
  have D_degree := ok_degree (P := P) (w := w) (base := base) (k := 0) B A2
  have D_value := ok_value (P := P) (w := w) (base := base) (k := 0) B A3
  have D_plus := ok_plus (P := P) (w := w) (base := base) (k := 1) B (D_trimmed.up (by decide)) A4
  have D_times := ok_times (P := P) (w := w) (base := base) (k := 0) B A5
  have D_scaled := ok_scaled (P := P) (w := w) (base := base) (k := 0) B A6
  have D_raised := ok_raised (P := P) (w := w) (base := base) (k := 0) B A7
  have D__law_draws := ok__law_draws (P := P) (w := w) (base := base) (k := 0) B A8
  have D__law_at := ok__law_at (P := P) (w := w) (base := base) (k := 0) B A9
  have D__law_is_integer := ok__law_is_integer (P := P) (w := w) (base := base) (k := 0) B A10
  have D__law_number := ok__law_number (P := P) (w := w) (base := base) (k := 1) B (D__law_at.up (by decide)) A11
  have D__law_poly := ok__law_poly (P := P) (w := w) (base := base) (k := 2) B (D__law_number.up (by decide)) (D__law_at.up (by decide)) A12
  have D__law_is_poly := ok__law_is_poly (P := P) (w := w) (base := base) (k := 1) B (D__law_is_integer.up (by decide)) A13
  have D__law_plus := ok__law_plus (P := P) (w := w) (base := base) (k := 0) B A14
  have D__law_times := ok__law_times (P := P) (w := w) (base := base) (k := 1) B (D__law_plus.up (by decide)) A15
  have D__law_value := ok__law_value (P := P) (w := w) (base := base) (k := 0) B A16
  have D__law_drawn := ok__law_drawn (P := P) (w := w) (base := base) (k := 3) B (D__law_poly.up (by decide)) (D__law_at.up (by decide)) A17
  exact ok_law (k := 4) B (D__law_draws.up (by decide)) (D__law_drawn.up (by decide)) (D__law_number.up (by decide)) (D__law_at.up (by decide)) (D__law_plus.up (by decide)) (D_trimmed.up (by decide)) (D__law_times.up (by decide)) (D_plus.up (by decide)) (D_times.up (by decide)) (D_scaled.up (by decide)) (D_raised.up (by decide)) (D__law_is_integer.up (by decide)) (D_degree.up (by decide)) (D_value.up (by decide)) (D__law_value.up (by decide)) (D__law_is_poly.up (by decide)) (D_is_polynomial.up (by decide)) F18
end W3
open PySem PySem.W PySem.Calls PyProof.Rows
theorem PySem.Challenge.cw_unsaidsizes_k00_polynomials_holds : PySem.Challenge.rw_unsaidsizes_k00_polynomials.Holds := by
  w_on; o_law
  refine HandSHeadRun.head_any (r := OpenLaw.row PySem.Challenge.rw_unsaidsizes_k00_polynomials) (q := view (OpenLaw.row PySem.Challenge.rw_unsaidsizes_k00_polynomials).prog [20]) (H := W3.hk) (ob := W3.ob) (M := 2000) (loose := W3.looseL) (d := HandSHeadRun.topDef (OpenLaw.row PySem.Challenge.rw_unsaidsizes_k00_polynomials).prog 20) (kwd := []) W3.ob_eq
    (by kernel_rfl) (fun s => by kernel_rfl) W3.run (by kernel_rfl) (by kernel_rfl) (by kernel_rfl) (by rfl) (by first | assumption | decide +kernel) (by decide +kernel) ⟨rfl, rfl, rfl, rfl, rfl, by decide +kernel⟩ ?hw ?hc
  case hw => w_witness2
  case hc =>
    refine L2.walk_ofE (l := PySem.Challenge.rw_unsaidsizes_k00_polynomials) (n := 63) (k := 5) (x := "script") (CX := L2.CX0) rfl (by decide) (by kernel_rfl) ⟨rfl, by decide, by decide⟩ ?F (fun _ _ _ _ z => z)
    intro w mg fa h Y G hmg0
    obtain ⟨K, KX, c⟩ := Y
    have hmg : mg ("law" : PySem.Str) = some (.ref fa) := by
      have e : (HandSHeadRun.topDef (OpenLaw.row PySem.Challenge.rw_unsaidsizes_k00_polynomials).prog 20).name = ("law" : PySem.Str) := by kernel_rfl
      rw [← e]
      exact hmg0
    obtain ⟨fd, hb, hF⟩ := W3.facts (P := (PySem.Challenge.rw_unsaidsizes_k00_polynomials).prog) (w := w) KX G hmg c
    exact ⟨K, fd, D3.spScr K W3.R_law, KX, hb, fun H a ns hl _ hS => D3.law_of hl hS, hF⟩
