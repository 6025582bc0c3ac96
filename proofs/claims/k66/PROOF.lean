import PyProof.Rows.All
import Wide.All
import OpenK.AllK
import Wide.FinOn
import HandS.Base
import HandS.Call
import HandS.List
import HandS.Comp
import HandS.Ends
import HandS.Iter
import HandS.Text
import HandS.Words
import HandS.Defaults
import HandS.Wide
import HandS.Style
import HandS.IsInst
import HandS.RaiseMore
import HandS.More
import HandS.WordsExc
import HandS.Head0
import HandS.Head1
import HandS.Head2
import HandS.HeadEnd
import HandS.HeadHook1
import HandS.HeadHook2
import KE.KExcSuper
import KE.KSuper
import HandS.ExcInit
import HandS.ExcIs
import HandS.ExcField
import HandS.TryOnly
import KE.KExcIs
import PySem.Challenge.RW_unsaidsizes_k66_ratios
set_option Elab.async false
set_option linter.all false
set_option maxRecDepth 100000
set_option maxHeartbeats 8000000
namespace D3
open PySem PySem.Spec L2
abbrev St := L2.St

/-! ### data in an abstract heap -/
def Ex (H H' : Hp) : Prop := ∀ a o, H a = some o → H' a = some o
theorem Ex.refl (H : Hp) : Ex H H := fun _ _ h => h
theorem Ex.trans {H H1 H2 : Hp} (a : Ex H H1) (b : Ex H1 H2) : Ex H H2 := fun x o h => b x o (a x o h)
theorem Ex.new {H : Hp} {p : Addr} {o : HO} (h : H p = none) : Ex H (upd H p o) := fun a u e => by
  rw [upd_ne (ne_of_none e h)]
  exact e
theorem Ex.put {F H : Hp} {p : Addr} {o : HO} (e : Ex F H) (h : F p = none) : Ex F (upd H p o) := fun a u ha => by
  rw [upd_ne (ne_of_none ha h)]
  exact e a u ha
theorem Ex.back {H H' : Hp} {p : Addr} (e : Ex H H') (h : H' p = none) : H p = none := by
  cases h1 : H p with
  | none => rfl
  | some o => rw [e p o h1] at h; cases h
theorem Ex.both {F H : Hp} {p : Addr} {o : HO} (e : Ex F H) : Ex (upd F p o) (upd H p o) := fun a u ha => by
  by_cases h : a = p
  · subst h; rw [upd_same] at ha ⊢; exact ha
  · rw [upd_ne h] at ha ⊢; exact e a u ha
theorem Ex.at_ {F H : Hp} {p : Addr} {o : HO} (e : Ex F H) (h : H p = some o) : Ex (upd F p o) H := fun a u ha => by
  by_cases hp : a = p
  · subst hp; rw [upd_same] at ha; cases ha; exact h
  · rw [upd_ne hp] at ha; exact e a u ha
theorem ex_t {K : PySem.W.Frag} {H H' : Hp} {a : Addr} {xs : List V} (e : Ex H H') (h : SqT K H a xs) : SqT K H' a xs := by
  rcases h with (h | ⟨o, h⟩) | h
  · exact .inl (.inl (e a _ h))
  · exact .inl (.inr ⟨o, e a _ h⟩)
  · exact .inr h
theorem ex_l {K : PySem.W.Frag} {H H' : Hp} {a : Addr} {xs : List V} (e : Ex H H') (h : SqL K H a xs) : SqL K H' a xs := by
  rcases h with (h | ⟨o, h⟩) | h
  · exact .inl (.inl (e a _ h))
  · exact .inl (.inr ⟨o, e a _ h⟩)
  · exact .inr h

mutual
inductive Dq (K : PySem.W.Frag) (H : Hp) : V → PyData → Prop
  | non : Dq K H .non .none
  | bl (b : Bool) : Dq K H (.bl b) (.bool b)
  | int (i : Int) : Dq K H (.int i) (.int i)
  | str (x : Str) : Dq K H (.str x) (.str x)
  | lst {a : Addr} {xs : List V} {ds : List PyData} : H a = some (.lst xs) → DqAll K H xs ds → Dq K H (.ref a) (.list ds)
  | tup {a : Addr} {xs : List V} {ds : List PyData} : SqT K H a xs → DqAll K H xs ds → Dq K H (.ref a) (.tuple ds)
inductive DqAll (K : PySem.W.Frag) (H : Hp) : List V → List PyData → Prop
  | nil : DqAll K H [] []
  | cons {v : V} {vs : List V} {d : PyData} {ds : List PyData} : Dq K H v d → DqAll K H vs ds → DqAll K H (v :: vs) (d :: ds)
end
section
variable {K : PySem.W.Frag} {H H' F F' : Hp}
mutual
theorem Dq.mono (e : Ex H H') : ∀ (d : PyData) (v : V), Dq K H v d → Dq K H' v d
  | .none, _, h => by cases h; exact .non
  | .bool b, _, h => by cases h; exact .bl b
  | .int i, _, h => by cases h; exact .int i
  | .str x, _, h => by cases h; exact .str x
  | .list ds, _, h => by
    cases h with
    | lst hs ha => exact .lst (e _ _ hs) (DqAll.mono e ds _ ha)
  | .tuple ds, _, h => by
    cases h with
    | tup hs ha => exact .tup (ex_t e hs) (DqAll.mono e ds _ ha)
  | .dict _, _, h => by cases h
theorem DqAll.mono (e : Ex H H') : ∀ (ds : List PyData) (vs : List V), DqAll K H vs ds → DqAll K H' vs ds
  | [], _, h => by cases h; exact .nil
  | d :: ds, _, h => by
    cases h with
    | cons h1 h2 => exact .cons (Dq.mono e d _ h1) (DqAll.mono e ds _ h2)
end
mutual
theorem Dq.dp : ∀ (d : PyData) (v : V), Dq K H v d → Dp K H v d
  | .none, _, h => by cases h; exact .non
  | .bool b, _, h => by cases h; exact .bl b
  | .int i, _, h => by cases h; exact .int i
  | .str x, _, h => by cases h; exact .str x
  | .list ds, _, h => by
    cases h with
    | lst hs ha => exact .lst (.inl (.inl hs)) (DqAll.dp ds _ ha)
  | .tuple ds, _, h => by
    cases h with
    | tup hs ha => exact .tup hs (DqAll.dp ds _ ha)
  | .dict _, _, h => by cases h
theorem DqAll.dp : ∀ (ds : List PyData) (vs : List V), DqAll K H vs ds → DpAll K H vs ds
  | [], _, h => by cases h; exact .nil
  | d :: ds, _, h => by
    cases h with
    | cons h1 h2 => exact .cons (Dq.dp d _ h1) (DqAll.dp ds _ h2)
end
theorem Dq.up {v : V} {d : PyData} (h : Dq K H v d) (e : Ex H H') : Dq K H' v d := Dq.mono e d v h
theorem DqAll.up {vs : List V} {ds : List PyData} (h : DqAll K H vs ds) (e : Ex H H') : DqAll K H' vs ds := DqAll.mono e ds vs h
theorem DqAll.length : ∀ {vs : List V} {ds : List PyData}, DqAll K H vs ds → vs.length = ds.length
  | _, [], h => by cases h; rfl
  | _, d :: ds, h => by
    cases h with
    | cons h1 h2 => simp [DqAll.length h2]
theorem DqAll.get : ∀ {vs : List V} {ds : List PyData} {i : Nat} {d : PyData}, DqAll K H vs ds → ds[i]? = some d → ∃ v, vs[i]? = some v ∧ Dq K H v d
  | _, [], i, d, h, e => by simp at e
  | _, c :: ds, 0, d, h, e => by
    cases h with
    | cons h1 h2 => simp at e; subst e; exact ⟨_, rfl, h1⟩
  | _, c :: ds, i + 1, d, h, e => by
    cases h with
    | cons h1 h2 =>
      obtain ⟨v, a, b⟩ := DqAll.get (i := i) h2 (by simpa using e)
      exact ⟨v, by simpa using a, b⟩
theorem DqAll.getV {vs : List V} {ds : List PyData} {i : Nat} {v : V} (h : DqAll K H vs ds) (e : vs[i]? = some v) : ∃ d, ds[i]? = some d ∧ Dq K H v d := by
  have hl := h.length
  have hi : i < ds.length := by
    have := (List.getElem?_eq_some_iff.mp e).1
    omega
  obtain ⟨w, hw, hd⟩ := h.get (List.getElem?_eq_getElem hi)
  rw [e] at hw; cases hw
  exact ⟨_, List.getElem?_eq_getElem hi, hd⟩
theorem DqAll.append : ∀ {vs ws : List V} {ds es : List PyData}, DqAll K H vs ds → DqAll K H ws es → DqAll K H (vs ++ ws) (ds ++ es)
  | _, _, [], _, h, g => by cases h; exact g
  | _, _, d :: ds, _, h, g => by
    cases h with
    | cons h1 h2 => exact .cons h1 (DqAll.append h2 g)
theorem DqAll.set {v : V} {d : PyData} (hv : Dq K H v d) : ∀ {vs : List V} {ds : List PyData} (i : Nat), DqAll K H vs ds → DqAll K H (vs.set i v) (ds.set i d)
  | _, [], _, h => by cases h; exact .nil
  | _, c :: ds, 0, h => by
    cases h with
    | cons h1 h2 => exact .cons hv h2
  | _, c :: ds, i + 1, h => by
    cases h with
    | cons h1 h2 => exact .cons h1 (DqAll.set hv i h2)
theorem DqAll.drop : ∀ {vs : List V} {ds : List PyData} (n : Nat), DqAll K H vs ds → DqAll K H (vs.drop n) (ds.drop n)
  | _, _, 0, h => h
  | _, [], n + 1, h => by cases h; exact .nil
  | _, d :: ds, n + 1, h => by
    cases h with
    | cons h1 h2 => exact DqAll.drop n h2
theorem DqAll.take : ∀ {vs : List V} {ds : List PyData} (n : Nat), DqAll K H vs ds → DqAll K H (vs.take n) (ds.take n)
  | _, _, 0, h => .nil
  | _, [], n + 1, h => by cases h; exact .nil
  | _, d :: ds, n + 1, h => by
    cases h with
    | cons h1 h2 => exact .cons h1 (DqAll.take n h2)
theorem DqAll.ints : ∀ {vs : List V} {ns : List Int}, DqAll K H vs (ns.map .int) → vs = ns.map V.int
  | _, [], h => by cases h; rfl
  | _, n :: ns, h => by
    cases h with
    | cons h1 h2 => cases h1; rw [DqAll.ints h2]; rfl
theorem DqAll.bls : ∀ {vs : List V} {ns : List Bool}, DqAll K H vs (ns.map .bool) → vs = ns.map V.bl
  | _, [], h => by cases h; rfl
  | _, n :: ns, h => by
    cases h with
    | cons h1 h2 => cases h1; rw [DqAll.bls h2]; rfl
theorem DqAll.ofInts : ∀ (ns : List Int), DqAll K H (ns.map V.int) (ns.map .int)
  | [] => .nil
  | n :: ns => .cons (.int n) (DqAll.ofInts ns)
theorem DqAll.repl {v : V} {d : PyData} (hv : Dq K H v d) : ∀ n : Nat, DqAll K H (List.replicate n v) (List.replicate n d)
  | 0 => .nil
  | n + 1 => .cons hv (DqAll.repl hv n)
/-- what needs no heap -/
def scalD : PyData → Bool
  | .none | .bool _ | .int _ | .str _ => true
  | _ => false
theorem Dq.scal {v : V} {d : PyData} (h : Dq K H v d) (s : scalD d = true) : Dq K H' v d := by
  cases h with
  | non => exact .non
  | bl b => exact .bl b
  | int i => exact .int i
  | str x => exact .str x
  | lst => cases s
  | tup => cases s
theorem DqAll.scal : ∀ {vs : List V} {ds : List PyData}, DqAll K H vs ds → ds.all scalD = true → DqAll K H' vs ds
  | _, [], h, _ => by cases h; exact .nil
  | _, d :: ds, h, s => by
    cases h with
    | cons h1 h2 =>
      rw [List.all_cons, Bool.and_eq_true] at s
      exact .cons (h1.scal s.1) (DqAll.scal h2 s.2)
end

/-! ### the frozen part grows -/
structure Grow (F H F' H' : Hp) : Prop where
  ff : Ex F F'
  hh : Ex H H'
  fh : Ex F' H'
  old : ∀ a, F a = none → H a ≠ none → F' a = none
theorem Grow.refl {F H : Hp} (e : Ex F H) : Grow F H F H := ⟨Ex.refl _, Ex.refl _, e, fun _ h _ => h⟩
theorem Grow.trans {F H F1 H1 F2 H2 : Hp} (a : Grow F H F1 H1) (b : Grow F1 H1 F2 H2) : Grow F H F2 H2 :=
  ⟨a.ff.trans b.ff, a.hh.trans b.hh, b.fh, fun x h0 h1 => b.old x (a.old x h0 h1) fun z => by
    cases h : H x with
    | none => exact h1 h
    | some o => rw [a.hh x o h] at z; cases z⟩
/-- a new object, frozen -/
theorem Grow.new {F H : Hp} {p : Addr} {o : HO} (e : Ex F H) (h : H p = none) : Grow F H (upd F p o) (upd H p o) :=
  ⟨Ex.new (e.back h), Ex.new h, e.both, fun a h0 h1 => by
    by_cases ha : a = p
    · subst ha; exact absurd h h1
    · rw [upd_ne ha]; exact h0⟩
/-- a new object, not frozen -/
theorem Grow.own {F H : Hp} {p : Addr} {o : HO} (e : Ex F H) (h : H p = none) : Grow F H F (upd H p o) :=
  ⟨Ex.refl _, Ex.new h, e.put (e.back h), fun a h0 _ => h0⟩
/-- junk -/
theorem Grow.junk {F H H' : Hp} (e : Ex F H) (h : Ex H H') : Grow F H F H' := ⟨Ex.refl _, h, e.trans h, fun _ h0 _ => h0⟩
/-- what was owned and new is frozen -/
theorem Grow.frz {F0 H0 F H : Hp} {p : Addr} {o : HO} (g : Grow F0 H0 F H) (h0 : H0 p = none) (hf : F p = none) (h : H p = some o) : Grow F0 H0 (upd F p o) H :=
  ⟨g.ff.trans (Ex.new hf), g.hh, g.fh.at_ h, fun a a0 a1 => by
    by_cases ha : a = p
    · subst ha; exact absurd h0 a1
    · rw [upd_ne ha]; exact g.old a a0 a1⟩
theorem Grow.put {F0 H0 F H : Hp} {p : Addr} {o : HO} (g : Grow F0 H0 F H) (h0 : H0 p = none) (hf : F p = none) : Grow F0 H0 F (upd H p o) :=
  ⟨g.ff, g.hh.put h0, g.fh.put hf, g.old⟩

/-! ### slots -/
inductive Sl where
  | no
  | dat (d : PyData)
  | own (ds : List PyData)
  | scr (ns : List Int)
  | exc (a dd : Addr) (d : PyData)

structure Ok (K : PySem.W.Frag) (F0 H0 : Hp) (env : List Sl) (σ : St) (F H : Hp) : Prop where
  g : Grow F0 H0 F H
  dat : ∀ (i : Nat) (d : PyData), env[i]? = some (.dat d) → ∃ v, σ[i]? = some (some v) ∧ Dq K F v d
  own : ∀ (i : Nat) (ds : List PyData), env[i]? = some (.own ds) → ∃ p vs, σ[i]? = some (some (.ref p)) ∧ F p = none ∧ H0 p = none ∧ H p = some (.lst vs) ∧ DqAll K F vs ds
  sep : ∀ (i j : Nat) (ds es : List PyData) (p : Addr), env[i]? = some (.own ds) → env[j]? = some (.own es) → σ[i]? = some (some (.ref p)) → σ[j]? = some (some (.ref p)) → i = j
  scr : ∀ (i : Nat) (ns : List Int), env[i]? = some (.scr ns) → ∃ a, σ[i]? = some (some (.ref a)) ∧ SqL K F a (ns.map V.int)
  exc : ∀ (i : Nat) (a dd : Addr) (d : PyData), env[i]? = some (.exc a dd d) → ∃ v, σ[i]? = some (some (.ref a)) ∧ H dd = some (.xd [("at", v)]) ∧ Dq K F v d
  len : σ.length = env.length

section
variable {K : PySem.W.Frag} {F0 H0 F H F' H' : Hp} {env : List Sl} {σ : St}
theorem Ok.grow (o : Ok K F0 H0 env σ F H) (g : Grow F H F' H') : Ok K F0 H0 env σ F' H' where
  g := o.g.trans g
  dat := fun i d e => by
    obtain ⟨v, a, b⟩ := o.dat i d e
    exact ⟨v, a, b.up g.ff⟩
  own := fun i ds e => by
    obtain ⟨p, vs, a, b, c, d, f⟩ := o.own i ds e
    exact ⟨p, vs, a, g.old p b (by rw [d]; simp), c, g.hh _ _ d, f.up g.ff⟩
  sep := o.sep
  scr := fun i ns e => by
    obtain ⟨a, h1, h2⟩ := o.scr i ns e
    exact ⟨a, h1, ex_l g.ff h2⟩
  exc := fun i a dd d e => by
    obtain ⟨v, h1, h2, h3⟩ := o.exc i a dd d e
    exact ⟨v, h1, g.hh _ _ h2, h3.up g.ff⟩
  len := o.len
theorem get_set_cases {α : Type} {l : List α} {i j : Nat} {x y : α} (h : (l.set i x)[j]? = some y) : (i = j ∧ i < l.length ∧ x = y) ∨ (i ≠ j ∧ l[j]? = some y) := by
  rw [List.getElem?_set] at h
  by_cases e : i = j
  · subst e
    rw [if_pos rfl] at h
    by_cases hl : i < l.length
    · rw [if_pos hl] at h
      exact .inl ⟨rfl, hl, by simpa using h⟩
    · rw [if_neg hl] at h; cases h
  · rw [if_neg e] at h
    exact .inr ⟨e, h⟩
theorem Ok.setDat (o : Ok K F0 H0 env σ F H) {i : Nat} {v : V} {d : PyData} (hd : Dq K F v d) : Ok K F0 H0 (env.set i (.dat d)) (σ.set i (some v)) F H where
  g := o.g
  dat := fun j e h => by
    rcases get_set_cases h with ⟨rfl, hl, q⟩ | ⟨ne, q⟩
    · cases q
      exact ⟨v, by rw [List.getElem?_set_self (by rw [o.len]; exact hl)], hd⟩
    · obtain ⟨w, a, b⟩ := o.dat j e q
      exact ⟨w, by rw [List.getElem?_set_ne ne]; exact a, b⟩
  own := fun j e h => by
    rcases get_set_cases h with ⟨rfl, hl, q⟩ | ⟨ne, q⟩
    · cases q
    · obtain ⟨p, vs, a, r⟩ := o.own j e q
      exact ⟨p, vs, by rw [List.getElem?_set_ne ne]; exact a, r⟩
  sep := fun j k ds es p h1 h2 h3 h4 => by
    rcases get_set_cases h1 with ⟨rfl, hl, q⟩ | ⟨ne, q⟩
    · cases q
    · rcases get_set_cases h2 with ⟨rfl, hl, q'⟩ | ⟨ne', q'⟩
      · cases q'
      · rw [List.getElem?_set_ne ne] at h3
        rw [List.getElem?_set_ne ne'] at h4
        exact o.sep j k ds es p q q' h3 h4
  scr := fun j e h => by
    rcases get_set_cases h with ⟨rfl, hl, q⟩ | ⟨ne, q⟩
    · cases q
    · obtain ⟨p, a, r⟩ := o.scr j e q
      exact ⟨p, by rw [List.getElem?_set_ne ne]; exact a, r⟩
  exc := fun j a2 dd2 e h => by
    rcases get_set_cases h with ⟨rfl, hl, q⟩ | ⟨ne, q⟩
    · cases q
    · obtain ⟨p, a, r⟩ := o.exc j a2 dd2 e q
      exact ⟨p, by rw [List.getElem?_set_ne ne]; exact a, r⟩
  len := by rw [List.length_set, List.length_set, o.len]
theorem Ok.setNo (o : Ok K F0 H0 env σ F H) {i : Nat} {x : Option V} : Ok K F0 H0 (env.set i .no) (σ.set i x) F H where
  g := o.g
  dat := fun j e h => by
    rcases get_set_cases h with ⟨rfl, hl, q⟩ | ⟨ne, q⟩
    · cases q
    · obtain ⟨w, a, b⟩ := o.dat j e q
      exact ⟨w, by rw [List.getElem?_set_ne ne]; exact a, b⟩
  own := fun j e h => by
    rcases get_set_cases h with ⟨rfl, hl, q⟩ | ⟨ne, q⟩
    · cases q
    · obtain ⟨p, vs, a, r⟩ := o.own j e q
      exact ⟨p, vs, by rw [List.getElem?_set_ne ne]; exact a, r⟩
  sep := fun j k ds es p h1 h2 h3 h4 => by
    rcases get_set_cases h1 with ⟨rfl, hl, q⟩ | ⟨ne, q⟩
    · cases q
    · rcases get_set_cases h2 with ⟨rfl, hl, q'⟩ | ⟨ne', q'⟩
      · cases q'
      · rw [List.getElem?_set_ne ne] at h3
        rw [List.getElem?_set_ne ne'] at h4
        exact o.sep j k ds es p q q' h3 h4
  scr := fun j e h => by
    rcases get_set_cases h with ⟨rfl, hl, q⟩ | ⟨ne, q⟩
    · cases q
    · obtain ⟨p, a, r⟩ := o.scr j e q
      exact ⟨p, by rw [List.getElem?_set_ne ne]; exact a, r⟩
  exc := fun j a2 dd2 e h => by
    rcases get_set_cases h with ⟨rfl, hl, q⟩ | ⟨ne, q⟩
    · cases q
    · obtain ⟨p, a, r⟩ := o.exc j a2 dd2 e q
      exact ⟨p, by rw [List.getElem?_set_ne ne]; exact a, r⟩
  len := by rw [List.length_set, List.length_set, o.len]
/-- a new list goes into a slot -/
theorem Ok.setOwn (o : Ok K F0 H0 env σ F H) {i : Nat} {p : Addr} {vs : List V} {ds : List PyData} (hf : F p = none) (h0 : H0 p = none) (hh : H p = some (.lst vs)) (hd : DqAll K F vs ds)
    (hn : ∀ (j : Nat) (es : List PyData), env[j]? = some (.own es) → σ[j]? ≠ some (some (.ref p))) : Ok K F0 H0 (env.set i (.own ds)) (σ.set i (some (.ref p))) F H where
  g := o.g
  dat := fun j e h => by
    rcases get_set_cases h with ⟨rfl, hl, q⟩ | ⟨ne, q⟩
    · cases q
    · obtain ⟨w, a, b⟩ := o.dat j e q
      exact ⟨w, by rw [List.getElem?_set_ne ne]; exact a, b⟩
  own := fun j e h => by
    rcases get_set_cases h with ⟨rfl, hl, q⟩ | ⟨ne, q⟩
    · cases q
      exact ⟨p, vs, by rw [List.getElem?_set_self (by rw [o.len]; exact hl)], hf, h0, hh, hd⟩
    · obtain ⟨p, vs, a, r⟩ := o.own j e q
      exact ⟨p, vs, by rw [List.getElem?_set_ne ne]; exact a, r⟩
  sep := fun j k es fs q h1 h2 h3 h4 => by
    rcases get_set_cases h1 with ⟨rfl, hl, q1⟩ | ⟨ne, q1⟩
    · rcases get_set_cases h2 with ⟨rfl, hl', q2⟩ | ⟨ne', q2⟩
      · rfl
      · rw [List.getElem?_set_self (by rw [o.len]; exact hl)] at h3
        cases h3
        rw [List.getElem?_set_ne ne'] at h4
        exact absurd h4 (hn _ _ q2)
    · rcases get_set_cases h2 with ⟨rfl, hl', q2⟩ | ⟨ne', q2⟩
      · rw [List.getElem?_set_self (by rw [o.len]; exact hl')] at h4
        cases h4
        rw [List.getElem?_set_ne ne] at h3
        exact absurd h3 (hn _ _ q1)
      · rw [List.getElem?_set_ne ne] at h3
        rw [List.getElem?_set_ne ne'] at h4
        exact o.sep j k es fs q q1 q2 h3 h4
  scr := fun j e h => by
    rcases get_set_cases h with ⟨rfl, hl, q⟩ | ⟨ne, q⟩
    · cases q
    · obtain ⟨p, a, r⟩ := o.scr j e q
      exact ⟨p, by rw [List.getElem?_set_ne ne]; exact a, r⟩
  exc := fun j a2 dd2 e h => by
    rcases get_set_cases h with ⟨rfl, hl, q⟩ | ⟨ne, q⟩
    · cases q
    · obtain ⟨p, a, r⟩ := o.exc j a2 dd2 e q
      exact ⟨p, by rw [List.getElem?_set_ne ne]; exact a, r⟩
  len := by rw [List.length_set, List.length_set, o.len]
/-- the list of a slot changes -/
theorem Ok.put (o : Ok K F0 H0 env σ F H) {i : Nat} {ds es : List PyData} {p : Addr} {vs : List V} (hi : env[i]? = some (.own ds)) (hs : σ[i]? = some (some (.ref p))) (hd : DqAll K F vs es) :
    Ok K F0 H0 (env.set i (.own es)) σ F (upd H p (.lst vs)) := by
  obtain ⟨p', vs', a, b, c, d, f⟩ := o.own i ds hi
  rw [hs] at a; cases a
  refine ⟨o.g.put c b, fun j e h => ?_, fun j e h => ?_, fun j k es fs q h1 h2 h3 h4 => ?_, fun j e h => ?_, fun j a2 dd2 e h => ?_, by rw [List.length_set, o.len]⟩
  · rcases get_set_cases h with ⟨rfl, hl, q⟩ | ⟨ne, q⟩
    · cases q
    · exact o.dat j e q
  · rcases get_set_cases h with ⟨rfl, hl, q⟩ | ⟨ne, q⟩
    · cases q
      exact ⟨p, vs, hs, b, c, upd_same, hd⟩
    · obtain ⟨p2, vs2, a2, b2, c2, d2, f2⟩ := o.own j e q
      have hne : p2 ≠ p := fun z => by
        subst z
        exact ne (o.sep i j _ _ _ hi q hs a2)
      exact ⟨p2, vs2, a2, b2, c2, by rw [upd_ne hne]; exact d2, f2⟩
  · rcases get_set_cases h1 with ⟨rfl, hl, q1⟩ | ⟨ne, q1⟩
    · rcases get_set_cases h2 with ⟨rfl, hl, q2⟩ | ⟨ne2, q2⟩
      · rfl
      · exact o.sep _ _ _ _ _ hi q2 h3 h4
    · rcases get_set_cases h2 with ⟨rfl, hl, q2⟩ | ⟨ne2, q2⟩
      · exact o.sep _ _ _ _ _ q1 hi h3 h4
      · exact o.sep _ _ _ _ _ q1 q2 h3 h4
  · rcases get_set_cases h with ⟨rfl, hl, q⟩ | ⟨ne, q⟩
    · cases q
    · exact o.scr j e q
  · rcases get_set_cases h with ⟨rfl, hl, q⟩ | ⟨ne, q⟩
    · cases q
    · obtain ⟨v2, a3, b3, c3⟩ := o.exc j a2 dd2 e q
      exact ⟨v2, a3, by rw [upd_ne (fun z => by rw [z, d] at b3; cases b3)]; exact b3, c3⟩
/-- the list of a slot is given away: from now on it is data -/
theorem Ok.freeze (o : Ok K F0 H0 env σ F H) {i : Nat} {ds : List PyData} (hi : env[i]? = some (.own ds)) : ∃ F', Grow F0 H0 F' H ∧ Ex F F' ∧ Ok K F0 H0 (env.set i (.dat (.list ds))) σ F' H := by
  obtain ⟨p, vs, a, b, c, d, f⟩ := o.own i ds hi
  have hx : Ex F (upd F p (.lst vs)) := Ex.new b
  refine ⟨upd F p (.lst vs), o.g.frz c b d, hx, o.g.frz c b d, fun j e h => ?_, fun j e h => ?_, fun j k es fs q h1 h2 h3 h4 => ?_, fun j e h => ?_, fun j a2 dd2 e h => ?_, by rw [List.length_set, o.len]⟩
  · rcases get_set_cases h with ⟨rfl, hl, q⟩ | ⟨ne, q⟩
    · cases q
      exact ⟨.ref p, a, .lst upd_same (f.up hx)⟩
    · obtain ⟨w, a, b⟩ := o.dat j e q
      exact ⟨w, a, b.up hx⟩
  · rcases get_set_cases h with ⟨rfl, hl, q⟩ | ⟨ne, q⟩
    · cases q
    · obtain ⟨p2, vs2, a2, b2, c2, d2, f2⟩ := o.own j e q
      have hne : p2 ≠ p := fun z => by
        subst z
        exact ne (o.sep i j _ _ _ hi q a a2)
      exact ⟨p2, vs2, a2, by rw [upd_ne hne]; exact b2, c2, d2, f2.up hx⟩
  · rcases get_set_cases h1 with ⟨rfl, hl, q1⟩ | ⟨ne, q1⟩
    · cases q1
    · rcases get_set_cases h2 with ⟨rfl, hl, q2⟩ | ⟨ne2, q2⟩
      · cases q2
      · exact o.sep _ _ _ _ _ q1 q2 h3 h4
  · rcases get_set_cases h with ⟨rfl, hl, q⟩ | ⟨ne, q⟩
    · cases q
    · obtain ⟨w, a, b⟩ := o.scr j e q
      exact ⟨w, a, ex_l hx b⟩
  · rcases get_set_cases h with ⟨rfl, hl, q⟩ | ⟨ne, q⟩
    · cases q
    · obtain ⟨v2, a3, b3, c3⟩ := o.exc j a2 dd2 e q
      exact ⟨v2, a3, b3, c3.up hx⟩
/-- a slot is forgotten -/
theorem Ok.forget (o : Ok K F0 H0 env σ F H) (i : Nat) : Ok K F0 H0 (env.set i .no) σ F H := by
  refine ⟨o.g, fun j e h => ?_, fun j e h => ?_, fun j k es fs q h1 h2 h3 h4 => ?_, fun j e h => ?_, fun j a2 dd2 e h => ?_, by rw [List.length_set, o.len]⟩
  · rcases get_set_cases h with ⟨rfl, hl, q⟩ | ⟨ne, q⟩
    · cases q
    · exact o.dat j e q
  · rcases get_set_cases h with ⟨rfl, hl, q⟩ | ⟨ne, q⟩
    · cases q
    · exact o.own j e q
  · rcases get_set_cases h1 with ⟨rfl, hl, q1⟩ | ⟨ne, q1⟩
    · cases q1
    · rcases get_set_cases h2 with ⟨rfl, hl, q2⟩ | ⟨ne2, q2⟩
      · cases q2
      · exact o.sep _ _ _ _ _ q1 q2 h3 h4
  · rcases get_set_cases h with ⟨rfl, hl, q⟩ | ⟨ne, q⟩
    · cases q
    · exact o.scr j e q
  · rcases get_set_cases h with ⟨rfl, hl, q⟩ | ⟨ne, q⟩
    · cases q
    · exact o.exc j a2 dd2 e q
end
end D3
namespace D3
open PySem PySem.Spec L2

/-! ### readings over data -/
abbrev KF := PySem.W.Frag
def sel (m : Bool) (F H : Hp) : Hp := if m then F else H
def tE (K : KF) (m : Bool) (env : List Sl) (d : PyData) : TE := fun σ H Q => ∃ F0 H0 F, Ok K F0 H0 env σ F H ∧ ∀ v F' H', Grow F H F' H' → Dq K (sel m F' H') v d → Q v H'
/-- a list that is read: its items are frozen, itself perhaps not -/
def tL (K : KF) (env : List Sl) (ds : List PyData) : TE := fun σ H Q => ∃ F0 H0 F, Ok K F0 H0 env σ F H ∧ ∀ p vs F' H', Grow F H F' H' → H' p = some (.lst vs) → DqAll K F' vs ds → Q (.ref p) H'
/-- a new list that nothing else knows -/
def tO (K : KF) (env : List Sl) (ds : List PyData) : TE := fun σ H Q => ∃ F0 H0 F, Ok K F0 H0 env σ F H ∧ ∀ p vs F' H', Grow F H F' H' → H p = none → F' p = none → H' p = some (.lst vs) → DqAll K F' vs ds → Q (.ref p) H'
def tA (K : KF) (m : Bool) (env : List Sl) (ds : List PyData) : TA := fun σ H Q => ∃ F0 H0 F, Ok K F0 H0 env σ F H ∧ ∀ vs F' H', Grow F H F' H' → DqAll K (sel m F' H') vs ds → Q vs H'
def tT (K : KF) (env : List Sl) (b : Bool) : TT := fun σ H Q => ∃ F0 H0 F, Ok K F0 H0 env σ F H ∧ ∀ F' H', Grow F H F' H' → Q b H'

section
variable {X : Cx} {K : KF} {e a b c : Expr} {es : List Expr} {m m1 m2 m3 : Bool} {env : List Sl} {d d1 d2 : PyData} {ds : List PyData} {pos : Pos}
theorem pmono {t t' : TE} (h : PE X e t) (k : ∀ σ H Q, t' σ H Q → t σ H Q) : PE X e t' := ⟨fun pins s σ H Q I q => h.run pins s σ H Q I (k σ H Q q)⟩
theorem ptmono {t t' : TT} (h : PT X e t) (k : ∀ σ H Q, t' σ H Q → t σ H Q) : PT X e t' := ⟨fun pins s σ H Q I q => h.run pins s σ H Q I (k σ H Q q)⟩
theorem pamono {t t' : TA} (h : PA X es t) (k : ∀ σ H Q, t' σ H Q → t σ H Q) : PA X es t' := ⟨fun pos pins s σ H Q I q => h.run pos pins s σ H Q I (k σ H Q q)⟩
theorem psmono {st : Stmt} {t t' : TS} (h : PS X st t) (k : ∀ D σ H, t' D σ H → t D σ H) : PS X st t' := ⟨fun pins s σ H D I q => h.run pins s σ H D I (k D σ H q)⟩
theorem pssmono {st : List Stmt} {t t' : TS} (h : PSs X st t) (k : ∀ D σ H, t' D σ H → t D σ H) : PSs X st t' := ⟨fun pins s σ H D I q => h.run pins s σ H D I (k D σ H q)⟩
theorem seldq {F H : Hp} {v : V} (e : Ex F H) (h : Dq K (sel m F H) v d) : Dq K H v d := by
  cases m with
  | true => exact Dq.up (show Dq K F v d from h) e
  | false => exact h
theorem selup {F H F' H' : Hp} {v : V} (g : Grow F H F' H') (h : Dq K (sel m F H) v d) : Dq K (sel m F' H') v d := by
  cases m with
  | true => exact Dq.up (show Dq K F v d from h) g.ff
  | false => exact Dq.up (show Dq K H v d from h) g.hh
theorem selsc {F H : Hp} {v : V} (s : scalD d = true) (h : Dq K (sel m F H) v d) {H' : Hp} : Dq K H' v d := h.scal s
theorem seldn {F H : Hp} {v : V} (e : Ex F H) (h : Dq K F v d) : Dq K (sel m F H) v d := by
  cases m with
  | true => exact h
  | false => exact h.up e

/-! conversions -/
theorem e_low (h : PE X e (tE K true env d)) : PE X e (tE K m env d) := pmono h fun σ H Q ⟨F0, H0, F, ok, k⟩ => ⟨F0, H0, F, ok, fun v F' H' g x => k v F' H' g (seldn g.fh x)⟩
theorem e_sc (s : scalD d = true) (h : PE X e (tE K m1 env d)) : PE X e (tE K m env d) := pmono h fun σ H Q ⟨F0, H0, F, ok, k⟩ => ⟨F0, H0, F, ok, fun v F' H' g x => k v F' H' g (selsc s x)⟩
theorem l_e (h : PE X e (tE K true env (.list ds))) : PE X e (tL K env ds) := pmono h fun σ H Q ⟨F0, H0, F, ok, k⟩ => ⟨F0, H0, F, ok, fun v F' H' g x => by
  cases (show Dq K F' v (.list ds) from x) with
  | lst h1 h2 => exact k _ _ F' H' g (g.fh _ _ h1) h2⟩
theorem l_o (h : PE X e (tO K env ds)) : PE X e (tL K env ds) := pmono h fun σ H Q ⟨F0, H0, F, ok, k⟩ => ⟨F0, H0, F, ok, fun p vs F' H' g n n' x y => k p vs F' H' g x y⟩
theorem e_o (h : PE X e (tO K env ds)) : PE X e (tE K m env (.list ds)) := pmono h fun σ H Q ⟨F0, H0, F, ok, k⟩ => ⟨F0, H0, F, ok, fun p vs F' H' g n n' x y => by
  refine k (.ref p) (upd F' p (.lst vs)) H' ⟨g.ff.trans (Ex.new n'), g.hh, g.fh.at_ x, fun a h0 h1 => ?_⟩ (seldn (g.fh.at_ x) (.lst upd_same (y.up (Ex.new n'))))
  by_cases ha : a = p
  · subst ha; exact absurd n h1
  · rw [upd_ne ha]; exact g.old a h0 h1⟩
theorem e_l (h : PE X e (tL K env ds)) : PE X e (tE K false env (.list ds)) := pmono h fun σ H Q ⟨F0, H0, F, ok, k⟩ => ⟨F0, H0, F, ok, fun p vs F' H' g x y => k (.ref p) F' H' g (.lst x (y.up g.fh))⟩
theorem a_low (h : PA X es (tA K true env ds)) : PA X es (tA K m env ds) := pamono h fun σ H Q ⟨F0, H0, F, ok, k⟩ => ⟨F0, H0, F, ok, fun v F' H' g x => k v F' H' g (by
  cases m with
  | true => exact x
  | false => exact DqAll.up (show DqAll K F' v ds from x) g.fh)⟩

/-! names and constants -/
theorem pe_dat {x : Str} (i : Nat) (hN : X.N[i]? = some x) (hv : Vis X.env.scope x) (he : env[i]? = some (.dat d)) (hd : (x == ("__debug__" : Str)) = false := by decide) (hcd : (x == ("__classdict__" : Str)) = false := by decide) : PE X (.Name x pos) (tE K m env d) :=
  pmono (pe_var hN hv hd hcd) fun σ H Q ⟨F0, H0, F, ok, k⟩ => by
    obtain ⟨v, h1, h2⟩ := ok.dat i d he
    exact ⟨v, h1, k v F H (Grow.refl ok.g.fh) (seldn ok.g.fh h2)⟩
theorem pl_own {x : Str} (i : Nat) (hN : X.N[i]? = some x) (hv : Vis X.env.scope x) (he : env[i]? = some (.own ds)) (hd : (x == ("__debug__" : Str)) = false := by decide) (hcd : (x == ("__classdict__" : Str)) = false := by decide) : PE X (.Name x pos) (tL K env ds) :=
  pmono (pe_var hN hv hd hcd) fun σ H Q ⟨F0, H0, F, ok, k⟩ => by
    obtain ⟨p, vs, h1, h2, h3, h4, h5⟩ := ok.own i ds he
    exact ⟨.ref p, h1, k p vs F H (Grow.refl ok.g.fh) h4 h5⟩
theorem e_const {v : V} (h : PE X e (tC v)) (hd : ∀ H, Dq K H v d) : PE X e (tE K m env d) := pmono h fun σ H Q ⟨F0, H0, F, ok, k⟩ => k v F H (Grow.refl ok.g.fh) (hd _)
theorem e_int {i : Int} {j : Nat} : PE X (.Constant (.int i) j pos) (tE K m env (.int i)) := e_const pe_int fun _ => .int i
theorem e_bl {i : Bool} {j : Nat} : PE X (.Constant (.bool i) j pos) (tE K m env (.bool i)) := e_const pe_bl fun _ => .bl i
theorem e_non {j : Nat} : PE X (.Constant .none j pos) (tE K m env .none) := e_const pe_non fun _ => .non
theorem e_str {x : Str} {j : Nat} : PE X (.Constant (.str x) j pos) (tE K m env (.str x)) := e_const pe_str fun _ => .str x

/-! operators whose answer needs no heap -/
theorem r_bin {r : R2} {z : V} {t : TE} (ha : PE X a (tE K m1 env d1)) (hb : PE X b (tE K m2 env d2)) (h : PE X e t) (ht : t = tOp r (tE K m1 env d1) (tE K m2 env d2))
    (hr : ∀ x y H Q, Dq K H x d1 → Dq K H y d2 → Q z H → r x y H Q) (hz : ∀ H, Dq K H z d) : PE X e (tE K m env d) := by
  subst ht
  exact pmono h fun σ H Q ⟨F0, H0, F, ok, k⟩ => ⟨F0, H0, F, ok, fun x F1 H1 g1 x1 => ⟨F0, H0, F1, ok.grow g1, fun y F2 H2 g2 y2 =>
    hr x y H2 Q (seldq g2.fh (selup g2 x1)) (seldq g2.fh y2) (k z F2 H2 (g1.trans g2) (hz _))⟩⟩
theorem e_bin {op : Operator} {r : R2} {z : V} (ho : OpR X (binaryOp op) r) (ha : PE X a (tE K m1 env d1)) (hb : PE X b (tE K m2 env d2))
    (hr : ∀ x y H Q, Dq K H x d1 → Dq K H y d2 → Q z H → r x y H Q) (hz : ∀ H, Dq K H z d) : PE X (.BinOp a op b pos) (tE K m env d) := r_bin ha hb (pe_op ho ha hb) rfl hr hz
theorem e_cmp {op : CmpOp} {r : R2} {z : V} (ho : OpR X (compareOp op) r) (ha : PE X a (tE K m1 env d1)) (hb : PE X b (tE K m2 env d2)) (hm : behindInMarks op b = false)
    (hr : ∀ x y H Q, Dq K H x d1 → Dq K H y d2 → Q z H → r x y H Q) (hz : ∀ H, Dq K H z d) : PE X (.Compare a [op] [b] pos) (tE K m env d) := r_bin ha hb (pe_cmpR ho ha hb hm) rfl hr hz
theorem e_un {op : UnaryOp} {r : V → Hp → VK → Prop} {z : V} (ho : UnR X (unaryOp op) r) (ha : PE X a (tE K m1 env d1)) (hr : ∀ x H Q, Dq K H x d1 → Q z H → r x H Q) (hz : ∀ H, Dq K H z d) : PE X (.UnaryOp op a pos) (tE K m env d) :=
  pmono (pe_un ho ha) fun σ H Q ⟨F0, H0, F, ok, k⟩ => ⟨F0, H0, F, ok, fun x F1 H1 g1 x1 => hr x H1 Q (seldq g1.fh x1) (k z F1 H1 g1 (hz _))⟩
section
variable {i j : Int}
theorem e_I {op : Operator} {g : Int → Int → Int} {C : Int → Int → Prop} (ho : OpR X (binaryOp op) (rI C fun i j => .int (g i j))) (hc : C i j) (ha : PE X a (tE K m1 env (.int i))) (hb : PE X b (tE K m2 env (.int j))) : PE X (.BinOp a op b pos) (tE K m env (.int (g i j))) :=
  e_bin ho ha hb (fun x y H Q hx hy q => by cases hx; cases hy; exact ⟨i, j, rfl, rfl, hc, q⟩) fun _ => .int _
theorem e_I0 {op : Operator} {g : Int → Int → Int} (ho : OpR X (binaryOp op) (rI0 fun i j => .int (g i j))) (ha : PE X a (tE K m1 env (.int i))) (hb : PE X b (tE K m2 env (.int j))) : PE X (.BinOp a op b pos) (tE K m env (.int (g i j))) :=
  e_bin ho ha hb (fun x y H Q hx hy q => by cases hx; cases hy; exact ⟨i, j, rfl, rfl, q⟩) fun _ => .int _
theorem e_add (ha : PE X a (tE K true env (.int i))) (hb : PE X b (tE K true env (.int j))) : PE X (.BinOp a .Add b pos) (tE K m env (.int (i + j))) := e_I0 (g := fun i j => i + j) op_add ha hb
theorem e_sub (ha : PE X a (tE K true env (.int i))) (hb : PE X b (tE K true env (.int j))) : PE X (.BinOp a .Sub b pos) (tE K m env (.int (i - j))) := e_I0 (g := fun i j => i - j) op_sub ha hb
theorem e_mod (ha : PE X a (tE K true env (.int i))) (hb : PE X b (tE K true env (.int j))) (hj : 0 < j) : PE X (.BinOp a .Mod b pos) (tE K m env (.int (i % j))) := e_I (g := fun i j => i % j) op_mod hj ha hb
theorem e_fdiv (ha : PE X a (tE K true env (.int i))) (hb : PE X b (tE K true env (.int j))) (hj : 0 < j ∧ j < 1073741824) : PE X (.BinOp a .FloorDiv b pos) (tE K m env (.int (i / j))) := e_I (g := fun i j => i / j) op_fdiv hj ha hb
theorem e_pow (ha : PE X a (tE K true env (.int i))) (hb : PE X b (tE K true env (.int j))) (hj : 0 ≤ j ∧ j ≤ 1000000 ∧ i.natAbs < 2 ^ 64) : PE X (.BinOp a .Pow b pos) (tE K m env (.int (i ^ j.toNat))) := e_I (g := fun i j => i ^ j.toNat) op_pow hj ha hb
theorem e_neg (ha : PE X a (tE K true env (.int i))) : PE X (.UnaryOp .USub a pos) (tE K m env (.int (-i))) := e_un un_neg ha (fun x H Q hx q => by cases hx; exact ⟨i, rfl, q⟩) fun _ => .int _
theorem e_cB {op : CmpOp} {g : Int → Int → Bool} (ho : OpR X (compareOp op) (rI0 fun i j => .bl (g i j))) (ha : PE X a (tE K true env (.int i))) (hb : PE X b (tE K true env (.int j))) (hm : behindInMarks op b = false) : PE X (.Compare a [op] [b] pos) (tE K m env (.bool (g i j))) :=
  e_cmp ho ha hb hm (fun x y H Q hx hy q => by cases hx; cases hy; exact ⟨i, j, rfl, rfl, q⟩) fun _ => .bl _
theorem e_lt (ha : PE X a (tE K true env (.int i))) (hb : PE X b (tE K true env (.int j))) : PE X (.Compare a [.Lt] [b] pos) (tE K m env (.bool (decide (i < j)))) := e_cB (g := fun i j => decide (i < j)) op_lt ha hb (nomark _)
theorem e_le (ha : PE X a (tE K true env (.int i))) (hb : PE X b (tE K true env (.int j))) : PE X (.Compare a [.LtE] [b] pos) (tE K m env (.bool (decide (i ≤ j)))) := e_cB (g := fun i j => decide (i ≤ j)) op_le ha hb (nomark _)
theorem e_gt (ha : PE X a (tE K true env (.int i))) (hb : PE X b (tE K true env (.int j))) : PE X (.Compare a [.Gt] [b] pos) (tE K m env (.bool (decide (j < i)))) := e_cB (g := fun i j => decide (j < i)) op_gt ha hb (nomark _)
theorem e_ge (ha : PE X a (tE K true env (.int i))) (hb : PE X b (tE K true env (.int j))) : PE X (.Compare a [.GtE] [b] pos) (tE K m env (.bool (decide (j ≤ i)))) := e_cB (g := fun i j => decide (j ≤ i)) op_ge ha hb (nomark _)
/-- ints, fast -/
theorem e_eqI (ha : PE X a (tE K true env (.int i))) (hb : PE X b (tE K true env (.int j))) : PE X (.Compare a [.Eq] [b] pos) (tE K m env (.bool (decide (i = j)))) :=
  e_cmp op_eq ha hb (nomark _) (fun x y H Q hx hy q => by cases hx; cases hy; exact ⟨rfl, by
    have : decide (V.int i = V.int j) = decide (i = j) := by simp
    rw [this]; exact q⟩) fun _ => .bl _
theorem e_neI (ha : PE X a (tE K true env (.int i))) (hb : PE X b (tE K true env (.int j))) : PE X (.Compare a [.NotEq] [b] pos) (tE K m env (.bool (!decide (i = j)))) :=
  e_cmp op_ne ha hb (nomark _) (fun x y H Q hx hy q => by cases hx; cases hy; exact ⟨rfl, by
    have : decide (V.int i = V.int j) = decide (i = j) := by simp
    rw [this]; exact q⟩) fun _ => .bl _
end
/-- any data -/
theorem e_eqD (hu : X.A.units + 64 < cLine) (ha : PE X a (tE X.K m1 env d1)) (hb : PE X b (tE X.K m2 env d2)) (s1 : SeqAt.shaped d1 = true) (s2 : SeqAt.shaped d2 = true) : PE X (.Compare a [.Eq] [b] pos) (tE X.K m env (.bool (PyData.eqv d1 d2))) :=
  e_cmp (op_eqD hu) ha hb (nomark _) (fun x y H Q hx hy q => ⟨d1, d2, Dq.dp _ _ hx, Dq.dp _ _ hy, s1, s2, q⟩) fun _ => .bl _
theorem e_neD (hu : X.A.units + 64 < cLine) (ha : PE X a (tE X.K m1 env d1)) (hb : PE X b (tE X.K m2 env d2)) (s1 : SeqAt.shaped d1 = true) (s2 : SeqAt.shaped d2 = true) : PE X (.Compare a [.NotEq] [b] pos) (tE X.K m env (.bool (!PyData.eqv d1 d2))) :=
  e_cmp (op_neD hu) ha hb (nomark _) (fun x y H Q hx hy q => ⟨d1, d2, Dq.dp _ _ hx, Dq.dp _ _ hy, s1, s2, q⟩) fun _ => .bl _

/-! tests, and, or, not, if -/
theorem t_val {k : Bool} (h : PE X e (tE K true env (.bool k))) (he : ∀ whole, isTrue e X.env whole = (do let v ← whole; standAt e.pos; holding [v] (truthy v)) := by intro _; rfl) : PT X e (tT K env k) :=
  ptmono (pt_val h he) fun σ H Q ⟨F0, H0, F, ok, q⟩ => ⟨F0, H0, F, ok, fun v F' H' g x => by
    cases x
    exact ⟨k, rfl, q F' H' g⟩⟩
theorem t_ok {k : Bool} {F0 H0 F H : Hp} {σ : St} {Q : Bool → Hp → Prop} (ok : Ok K F0 H0 env σ F H) (q : ∀ F' H', Grow F H F' H' → Q k H') : tT K env k σ H Q := ⟨F0, H0, F, ok, q⟩
theorem t_and2 {k l : Bool} (ha : PT X a (tT K env k)) (hb : PT X b (tT K env l)) : PT X (.BoolOp .And [a, b] pos) (tT K env (k && l)) :=
  ptmono (pw_and ha (pw_and1 hb)).pt fun σ H Q ⟨F0, H0, F, ok, q⟩ => ⟨F0, H0, F, ok, fun F1 H1 g1 => by
    cases k with
    | true => exact ⟨F0, H0, F1, ok.grow g1, fun F2 H2 g2 => q F2 H2 (g1.trans g2)⟩
    | false => exact q F1 H1 g1⟩
/-- and, or: the second one is asked only if the first one lets it -/
theorem w_one {op : BoolOp} {k : Bool} (ha : PT X a (tT K env k)) : PW X (.BoolOp op [a] pos) (tT K env k) := by
  cases op with
  | And => exact pw_and1 ha
  | Or => exact pw_or1 ha
theorem wmono {t t' : TT} (h : PW X e t) (k : ∀ σ H Q, t' σ H Q → t σ H Q) : PW X e t' := ⟨fun wh pins s σ H Q I q => h.run wh pins s σ H Q I (k σ H Q q)⟩
theorem pw_any : PW X e (fun _ _ _ => False) := ⟨fun _ _ _ _ _ _ _ h => h.elim⟩
theorem pt_any : PT X e (fun _ _ _ => False) := ⟨fun _ _ _ _ _ _ h => h.elim⟩
theorem pe_any : PE X e (fun _ _ _ => False) := ⟨fun _ _ _ _ _ _ h => h.elim⟩
theorem w_and {k l : Bool} (ha : PT X a (tT K env k)) (hb : k = true → PW X (.BoolOp .And (b :: es) pos) (tT K env l)) : PW X (.BoolOp .And (a :: b :: es) pos) (tT K env (k && l)) := by
  cases k with
  | true => exact wmono (pw_and ha (hb rfl)) fun σ H Q ⟨F0, H0, F, ok, q⟩ => ⟨F0, H0, F, ok, fun F1 H1 g1 => ⟨F0, H0, F1, ok.grow g1, fun F2 H2 g2 => q F2 H2 (g1.trans g2)⟩⟩
  | false => exact wmono (pw_and ha pw_any) fun σ H Q ⟨F0, H0, F, ok, q⟩ => ⟨F0, H0, F, ok, fun F1 H1 g1 => q F1 H1 g1⟩
theorem w_or {k l : Bool} (ha : PT X a (tT K env k)) (hb : k = false → PW X (.BoolOp .Or (b :: es) pos) (tT K env l)) : PW X (.BoolOp .Or (a :: b :: es) pos) (tT K env (k || l)) := by
  cases k with
  | false => exact wmono (pw_or ha (hb rfl)) fun σ H Q ⟨F0, H0, F, ok, q⟩ => ⟨F0, H0, F, ok, fun F1 H1 g1 => ⟨F0, H0, F1, ok.grow g1, fun F2 H2 g2 => q F2 H2 (g1.trans g2)⟩⟩
  | true => exact wmono (pw_or ha pw_any) fun σ H Q ⟨F0, H0, F, ok, q⟩ => ⟨F0, H0, F, ok, fun F1 H1 g1 => q F1 H1 g1⟩
theorem t_w {k : Bool} (h : PW X e (tT K env k)) : PT X e (tT K env k) := h.pt
theorem t_not {k : Bool} (ha : PT X a (tT K env k)) : PT X (.UnaryOp .Not a pos) (tT K env (!k)) :=
  ptmono (pt_not ha) fun σ H Q ⟨F0, H0, F, ok, q⟩ => ⟨F0, H0, F, ok, fun F1 H1 g1 => q F1 H1 g1⟩
theorem e_one {op : BoolOp} {k : Bool} (ha : PE X a (tE K m env (.bool k))) : PE X (.BoolOp op [a] pos) (tE K m env (.bool k)) := pe_one ha
theorem e_and {k l : Bool} (ha : PE X a (tE K true env (.bool k))) (hb : k = true → PE X (.BoolOp .And (b :: es) pos) (tE K m env (.bool l))) : PE X (.BoolOp .And (a :: b :: es) pos) (tE K m env (.bool (k && l))) := by
  cases k with
  | true => exact pmono (pe_and ha (hb rfl)) fun σ H Q ⟨F0, H0, F, ok, q⟩ => ⟨F0, H0, F, ok, fun v F1 H1 g1 x => by
      cases x
      exact ⟨true, rfl, F0, H0, F1, ok.grow g1, fun v F2 H2 g2 x2 => q v F2 H2 (g1.trans g2) x2⟩⟩
  | false => exact pmono (pe_and ha pe_any) fun σ H Q ⟨F0, H0, F, ok, q⟩ => ⟨F0, H0, F, ok, fun v F1 H1 g1 x => by
      cases x
      exact ⟨false, rfl, q _ F1 H1 g1 (.bl false)⟩⟩
theorem e_or {k l : Bool} (ha : PE X a (tE K true env (.bool k))) (hb : k = false → PE X (.BoolOp .Or (b :: es) pos) (tE K m env (.bool l))) : PE X (.BoolOp .Or (a :: b :: es) pos) (tE K m env (.bool (k || l))) := by
  cases k with
  | false => exact pmono (pe_or ha (hb rfl)) fun σ H Q ⟨F0, H0, F, ok, q⟩ => ⟨F0, H0, F, ok, fun v F1 H1 g1 x => by
      cases x
      exact ⟨false, rfl, F0, H0, F1, ok.grow g1, fun v F2 H2 g2 x2 => q v F2 H2 (g1.trans g2) x2⟩⟩
  | true => exact pmono (pe_or ha pe_any) fun σ H Q ⟨F0, H0, F, ok, q⟩ => ⟨F0, H0, F, ok, fun v F1 H1 g1 x => by
      cases x
      exact ⟨true, rfl, q _ F1 H1 g1 (.bl true)⟩⟩
theorem e_not {k : Bool} (ha : PE X a (tE K true env (.bool k))) : PE X (.UnaryOp .Not a pos) (tE K m env (.bool (!k))) :=
  pmono (pe_not ha) fun σ H Q ⟨F0, H0, F, ok, q⟩ => ⟨F0, H0, F, ok, fun v F1 H1 g1 x => by
    cases x
    exact ⟨k, rfl, q _ F1 H1 g1 (.bl _)⟩⟩
theorem e_if {k : Bool} (hc : PT X c (tT K env k)) (ha : k = true → PE X a (tE K m env d)) (hb : k = false → PE X b (tE K m env d)) : PE X (.IfExp c a b pos) (tE K m env d) := by
  cases k with
  | true => exact pmono (pe_ifExp hc (ha rfl) pe_any) fun σ H Q ⟨F0, H0, F, ok, q⟩ => ⟨F0, H0, F, ok, fun F1 H1 g1 => ⟨F0, H0, F1, ok.grow g1, fun v F2 H2 g2 x => q v F2 H2 (g1.trans g2) x⟩⟩
  | false => exact pmono (pe_ifExp hc pe_any (hb rfl)) fun σ H Q ⟨F0, H0, F, ok, q⟩ => ⟨F0, H0, F, ok, fun F1 H1 g1 => ⟨F0, H0, F1, ok.grow g1, fun v F2 H2 g2 x => q v F2 H2 (g1.trans g2) x⟩⟩

/-! argument lists, displays -/
theorem a_nil : PA X [] (tA K m env []) := pamono pa_nil fun σ H Q ⟨F0, H0, F, ok, q⟩ => q [] F H (Grow.refl ok.g.fh) .nil
theorem dqselup {F H F' H' : Hp} {vs : List V} (g : Grow F H F' H') (h : DqAll K (sel m F H) vs ds) : DqAll K (sel m F' H') vs ds := by
  cases m with
  | true => exact DqAll.up (show DqAll K F vs ds from h) g.ff
  | false => exact DqAll.up (show DqAll K H vs ds from h) g.hh
theorem a_cons (ha : PE X a (tE K m env d)) (hs : PA X es (tA K m env ds)) (hst : starEach (a :: es) X.env = (false, eval a X.env) :: starEach es X.env := by rfl) : PA X (a :: es) (tA K m env (d :: ds)) :=
  pamono (pa_cons ha hs hst) fun σ H Q ⟨F0, H0, F, ok, q⟩ => ⟨F0, H0, F, ok, fun v F1 H1 g1 x1 => ⟨F0, H0, F1, ok.grow g1, fun vs F2 H2 g2 x2 => q (v :: vs) F2 H2 (g1.trans g2) (.cons (selup g2 x1) x2)⟩⟩
theorem o_list (h : PA X es (tA K true env ds)) (hl : ds.length ≤ sizeLine) : PE X (.List es pos) (tO K env ds) :=
  pmono (pe_lst h) fun σ H Q ⟨F0, H0, F, ok, q⟩ => ⟨F0, H0, F, ok, fun vs F1 H1 g1 x1 => ⟨by
    have := DqAll.length (show DqAll K F1 vs ds from x1)
    omega, fun p hp => q p vs F1 (upd H1 p (.lst vs)) (g1.trans (Grow.own g1.fh hp)) (g1.hh.back hp) (g1.fh.back hp) upd_same x1⟩⟩
theorem e_tup {x1} (h : PA X es (tA K true env ds)) (hl : ds.length ≤ sizeLine) : PE X (.Tuple es x1 pos) (tE K m env (.tuple ds)) :=
  pmono (pe_tup h) fun σ H Q ⟨F0, H0, F, ok, q⟩ => ⟨F0, H0, F, ok, fun vs F1 H1 g1 x1 => ⟨by
    have := DqAll.length (show DqAll K F1 vs ds from x1)
    omega, fun p hp => q (.ref p) (upd F1 p (.tup vs)) (upd H1 p (.tup vs)) (g1.trans (Grow.new g1.fh hp)) (seldn (g1.fh.both) (.tup (.inl (.inl upd_same)) (DqAll.up (show DqAll K F1 vs ds from x1) (Ex.new (g1.fh.back hp)))))⟩⟩
end
end D3
namespace D3
open PySem PySem.Spec L2

section
variable {X : Cx} {K : KF} {e a b c : Expr} {es : List Expr} {m m1 m2 m3 : Bool} {env : List Sl} {d d1 d2 : PyData} {ds ds1 ds2 : List PyData} {pos p1 p2 p3 p4 : Pos}
abbrev NS (X : Cx) (e : Expr) : Prop := ∀ es, starEach (e :: es) X.env = (false, eval e X.env) :: starEach es X.env
theorem sqOf {H : Hp} {p : Addr} {vs : List V} (h : H p = some (.lst vs)) : SqL K H p vs := .inl (.inl h)

/-! ### len -/
theorem e_len (hm : X.mg "len" = none) (h : PE X e (tL X.K env ds)) (hg : Gl X "len" := by rfl) (ns : NS X e := by exact fun _ => rfl) : PE X (.Call (.Name "len" p1) [e] [] pos) (tE X.K m env (.int (ds.length : Int))) :=
  pmono (pe_callB call_len_seq hg hm PySem.boot_len (pa_cons h pa_nil (ns [])) (he := ns [])) fun σ H Q ⟨F0, H0, F, ok, k⟩ => ⟨F0, H0, F, ok, fun p vs F' H' g x y => ⟨p, vs, rfl, .inl (sqOf x), k _ F' H' g (by rw [y.length]; exact .int _)⟩⟩
theorem e_lenT (hm : X.mg "len" = none) (h : PE X e (tE X.K true env (.tuple ds))) (hg : Gl X "len" := by rfl) (ns : NS X e := by exact fun _ => rfl) : PE X (.Call (.Name "len" p1) [e] [] pos) (tE X.K m env (.int (ds.length : Int))) :=
  pmono (pe_callB call_len_seq hg hm PySem.boot_len (pa_cons h pa_nil (ns [])) (he := ns [])) fun σ H Q ⟨F0, H0, F, ok, k⟩ => ⟨F0, H0, F, ok, fun v F' H' g x => by
    cases (show Dq X.K F' v (.tuple ds) from x) with
    | tup h1 h2 => exact ⟨_, _, rfl, .inr (ex_t g.fh h1), k _ F' H' g (by rw [h2.length]; exact .int _)⟩⟩
theorem e_lenS {z : Str} (hm : X.mg "len" = none) (hz : z.length ≤ sizeLine) (h : PE X e (tE X.K true env (.str z))) (hg : Gl X "len" := by rfl) (ns : NS X e := by exact fun _ => rfl) : PE X (.Call (.Name "len" p1) [e] [] pos) (tE X.K m env (.int (z.length : Int))) :=
  pmono (pe_callB call_len_str hg hm PySem.boot_len (pa_cons h pa_nil (ns [])) (he := ns [])) fun σ H Q ⟨F0, H0, F, ok, k⟩ => ⟨F0, H0, F, ok, fun v F' H' g x => by
    cases x
    exact ⟨z, rfl, hz, k _ F' H' g (.int _)⟩⟩
/-- len(script) -/
theorem e_lenScr {x : Str} {ns : List Int} (i : Nat) (hm : X.mg "len" = none) (he : env[i]? = some (.scr ns)) (hN : X.N[i]? = some x) (hv : Vis X.env.scope x) (hd : (x == ("__debug__" : Str)) = false := by decide) (hcd : (x == ("__classdict__" : Str)) = false := by decide) (hg : Gl X "len" := by rfl) :
    PE X (.Call (.Name "len" p1) [.Name x p2] [] pos) (tE X.K m env (.int (ns.length : Int))) :=
  pmono (pe_callB call_len_seq hg hm PySem.boot_len (pa_cons (pe_var hN hv hd hcd) pa_nil)) fun σ H Q ⟨F0, H0, F, ok, k⟩ => by
    obtain ⟨a, h1, h2⟩ := ok.scr i ns he
    exact ⟨.ref a, h1, a, _, rfl, .inl (ex_l ok.g.fh h2), k _ F H (Grow.refl ok.g.fh) (by rw [List.length_map]; exact .int _)⟩

/-! ### an item -/
theorem atI_dq {F : Hp} {vs : List V} {i : Int} (h : DqAll K F vs ds) (ha : atI ds i = some d) : ∃ v, atI vs i = some v ∧ Dq K F v d := by
  unfold atI at ha ⊢
  rw [h.length]
  cases hx : ixN ds.length i with
  | none => rw [hx] at ha; cases ha
  | some j =>
    rw [hx] at ha
    exact h.get ha
theorem e_ix {i : Int} (h : PE X a (tL X.K env ds)) (hb : PE X b (tE X.K true env (.int i))) (ha : atI ds i = some d) (hs : PlainIx b := by exact fun _ _ => rfl) : PE X (.Subscript a b pos) (tE X.K m env d) :=
  pmono (pe_ix ix_list h hb hs) fun σ H Q ⟨F0, H0, F, ok, k⟩ => ⟨F0, H0, F, ok, fun p vs F1 H1 g1 x y => ⟨F0, H0, F1, ok.grow g1, fun v F2 H2 g2 z => by
    cases z
    obtain ⟨v, q1, q2⟩ := atI_dq y ha
    exact ⟨p, vs, i, v, rfl, rfl, sqOf (g2.hh _ _ x), q1, k v F2 H2 (g1.trans g2) (seldn g2.fh (q2.up g2.ff))⟩⟩⟩
theorem e_ixT {i : Int} (h : PE X a (tE X.K true env (.tuple ds))) (hb : PE X b (tE X.K true env (.int i))) (ha : atI ds i = some d) (hs : PlainIx b := by exact fun _ _ => rfl) : PE X (.Subscript a b pos) (tE X.K m env d) :=
  pmono (pe_ix ix_tup h hb hs) fun σ H Q ⟨F0, H0, F, ok, k⟩ => ⟨F0, H0, F, ok, fun v F1 H1 g1 x => ⟨F0, H0, F1, ok.grow g1, fun w F2 H2 g2 z => by
    cases z
    cases (show Dq X.K F1 v (.tuple ds) from x) with
    | tup h1 h2 =>
      obtain ⟨v, q1, q2⟩ := atI_dq h2 ha
      exact ⟨_, _, i, v, rfl, rfl, ex_t (g1.fh.trans g2.hh) h1, q1, k v F2 H2 (g1.trans g2) (seldn g2.fh (q2.up g2.ff))⟩⟩⟩
theorem e_ixS {i : Int} {z : Str} {c : Nat} (h : PE X a (tE X.K true env (.str z))) (hb : PE X b (tE X.K true env (.int i))) (hz : z.length ≤ sizeLine) (ha : atI z.cps.toList i = some c) (hs : PlainIx b := by exact fun _ _ => rfl) : PE X (.Subscript a b pos) (tE X.K m env (.str ⟨#[c]⟩)) :=
  pmono (pe_ix ix_str h hb hs) fun σ H Q ⟨F0, H0, F, ok, k⟩ => ⟨F0, H0, F, ok, fun v F1 H1 g1 x => ⟨F0, H0, F1, ok.grow g1, fun w F2 H2 g2 y => by
    cases x
    cases y
    exact ⟨z, i, c, rfl, rfl, hz, ha, k _ F2 H2 (g1.trans g2) (.str _)⟩⟩⟩
/-- script[k] -/
theorem e_ixScr {x : Str} {ns : List Int} {i : Nat} {j n : Int} (he : env[i]? = some (.scr ns)) (hN : X.N[i]? = some x) (hv : Vis X.env.scope x) (hb : PE X b (tE X.K true env (.int j))) (ha : atI ns j = some n) (hs : PlainIx b := by exact fun _ _ => rfl)
    (hd : (x == ("__debug__" : Str)) = false := by decide) (hcd : (x == ("__classdict__" : Str)) = false := by decide) : PE X (.Subscript (.Name x p1) b pos) (tE X.K m env (.int n)) :=
  pmono (pe_ix ix_list (pe_var hN hv hd hcd) hb hs) fun σ H Q ⟨F0, H0, F, ok, k⟩ => by
    obtain ⟨a, h1, h2⟩ := ok.scr i ns he
    refine ⟨.ref a, h1, F0, H0, F, ok, fun w F2 H2 g2 z => ?_⟩
    cases z
    refine ⟨a, _, j, .int n, rfl, rfl, ex_l (ok.g.fh.trans g2.hh) h2, ?_, k _ F2 H2 g2 (.int _)⟩
    unfold atI at ha ⊢
    rw [List.length_map]
    cases hx : ixN ns.length j with
    | none => rw [hx] at ha; cases ha
    | some q =>
      rw [hx] at ha
      show (ns.map V.int)[q]? = some (.int n)
      rw [List.getElem?_map, show ns[q]? = some n from ha]; rfl

/-! ### slices -/
theorem dq_cut {F : Hp} {vs : List V} (lo hi : Option Int) (h : DqAll K F vs ds) : DqAll K F (cutV vs lo hi) ((ds.drop (HT.sIx ds.length 0 lo)).take (HT.sIx ds.length ds.length hi - HT.sIx ds.length 0 lo)) := by
  unfold cutV
  rw [h.length]
  exact (h.drop _).take _
def cutD {α : Type} (ds : List α) (lo hi : Option Int) : List α := (ds.drop (HT.sIx ds.length 0 lo)).take (HT.sIx ds.length ds.length hi - HT.sIx ds.length 0 lo)
def tOp_ (K : KF) (env : List Sl) (o : Option Int) : TO := fun σ H Q => ∃ F0 H0 F, Ok K F0 H0 env σ F H ∧ ∀ F' H', Grow F H F' H' → Q o H'
theorem pomono {eo : Option Expr} {t t' : TO} (h : PO X eo t) (k : ∀ σ H Q, t' σ H Q → t σ H Q) : PO X eo t' := ⟨fun pins s σ H Q I q => h.run pins s σ H Q I (k σ H Q q)⟩
theorem o_no : PO X none (tOp_ K env none) := pomono po_none fun σ H Q ⟨F0, H0, F, ok, k⟩ => k F H (Grow.refl ok.g.fh)
theorem o_so {i : Int} (h : PE X e (tE K true env (.int i))) : PO X (some e) (tOp_ K env (some i)) := pomono (po_some h) fun σ H Q ⟨F0, H0, F, ok, k⟩ => ⟨F0, H0, F, ok, fun v F1 H1 g1 x => by
  cases x
  exact ⟨i, rfl, k F1 H1 g1⟩⟩
theorem o_sl {lo hi : Option Int} {elo ehi : Option Expr} (h : PE X e (tL X.K env ds)) (hl : PO X elo (tOp_ X.K env lo)) (hh : PO X ehi (tOp_ X.K env hi)) : PE X (.Subscript e (.Slice elo ehi none p2) pos) (tO X.K env (cutD ds lo hi)) :=
  pmono (pe_slice sl_list h hl hh) fun σ H Q ⟨F0, H0, F, ok, k⟩ => ⟨F0, H0, F, ok, fun p vs F1 H1 g1 x y => ⟨F0, H0, F1, ok.grow g1, fun F2 H2 g2 => ⟨F0, H0, F2, (ok.grow g1).grow g2, fun F3 H3 g3 =>
    ⟨p, vs, rfl, sqOf (g3.hh _ _ (g2.hh _ _ x)), fun q hq => k q _ F3 _ (((g1.trans g2).trans g3).trans (Grow.own g3.fh hq)) (((g1.trans g2).trans g3).hh.back hq) (g3.fh.back hq) upd_same (dq_cut lo hi (y.up (g2.ff.trans g3.ff)))⟩⟩⟩⟩
theorem e_slS {lo hi : Option Int} {elo ehi : Option Expr} {z : Str} (hz : z.length ≤ sizeLine) (h : PE X e (tE X.K true env (.str z))) (hl : PO X elo (tOp_ X.K env lo)) (hh : PO X ehi (tOp_ X.K env hi)) : PE X (.Subscript e (.Slice elo ehi none p2) pos) (tE X.K m env (.str (cutS z lo hi))) :=
  pmono (pe_slice sl_str h hl hh) fun σ H Q ⟨F0, H0, F, ok, k⟩ => ⟨F0, H0, F, ok, fun v F1 H1 g1 x => ⟨F0, H0, F1, ok.grow g1, fun F2 H2 g2 => ⟨F0, H0, F2, (ok.grow g1).grow g2, fun F3 H3 g3 => by
    cases x
    exact ⟨z, rfl, hz, k _ F3 H3 ((g1.trans g2).trans g3) (.str _)⟩⟩⟩⟩

/-! ### new lists -/
theorem o_cat (ha : PE X a (tL X.K env ds1)) (hb : PE X b (tL X.K env ds2)) (hz : ds1.length + ds2.length ≤ sizeLine) : PE X (.BinOp a .Add b pos) (tO X.K env (ds1 ++ ds2)) :=
  pmono (pe_op op_cat ha hb) fun σ H Q ⟨F0, H0, F, ok, k⟩ => ⟨F0, H0, F, ok, fun p vs F1 H1 g1 x y => ⟨F0, H0, F1, ok.grow g1, fun q ws F2 H2 g2 x2 y2 =>
    ⟨p, q, vs, ws, rfl, rfl, g2.hh _ _ x, x2, by rw [y.length, y2.length]; exact hz, fun r hr => k r _ F2 _ ((g1.trans g2).trans (Grow.own g2.fh hr)) ((g1.trans g2).hh.back hr) (g2.fh.back hr) upd_same ((y.up g2.ff).append y2)⟩⟩⟩
def repD {α : Type} (ds : List α) (k : Int) : List α := (List.replicate k.toNat ds).flatten
theorem dq_rep {F : Hp} {vs : List V} (h : DqAll K F vs ds) : ∀ n : Nat, DqAll K F (List.replicate n vs).flatten (List.replicate n ds).flatten
  | 0 => .nil
  | n + 1 => by
    rw [List.replicate_succ, List.replicate_succ, List.flatten_cons, List.flatten_cons]
    exact h.append (dq_rep h n)
theorem o_rep {k : Int} (ha : PE X a (tL X.K env ds)) (hb : PE X b (tE X.K true env (.int k))) (h1 : -(2 ^ 63) ≤ k ∧ k < 2 ^ 63) (hz : ds.length * k.toNat ≤ sizeLine) : PE X (.BinOp a .Mult b pos) (tO X.K env (repD ds k)) :=
  pmono (pe_op op_rep ha hb) fun σ H Q ⟨F0, H0, F, ok, q⟩ => ⟨F0, H0, F, ok, fun p vs F1 H1 g1 x y => ⟨F0, H0, F1, ok.grow g1, fun w F2 H2 g2 z => by
    cases z
    exact ⟨p, k, vs, rfl, rfl, g2.hh _ _ x, h1.1, h1.2, by rw [y.length]; exact hz, fun r hr => q r _ F2 _ ((g1.trans g2).trans (Grow.own g2.fh hr)) ((g1.trans g2).hh.back hr) (g2.fh.back hr) upd_same (dq_rep (y.up g2.ff) _)⟩⟩⟩
theorem o_listOf (hm : X.mg "list" = none) (h : PE X e (tL X.K env ds)) (hg : Gl X "list" := by rfl) (hv : bootBuiltins "list" = some (.type "list") := by decide +kernel) (ns : NS X e := by exact fun _ => rfl) : PE X (.Call (.Name "list" p1) [e] [] pos) (tO X.K env ds) :=
  pmono (pe_callTy call_list_of hg hm hv (pa_cons h pa_nil (ns [])) (he := ns [])) fun σ H Q ⟨F0, H0, F, ok, k⟩ => ⟨F0, H0, F, ok, fun p vs F1 H1 g1 x y => ⟨p, vs, rfl, .inl (sqOf x), fun r hr => k r vs F1 _ (g1.trans (Grow.own g1.fh hr)) (g1.hh.back hr) (g1.fh.back hr) upd_same y⟩⟩

/-! ### built-ins of ints -/
section
variable {i j : Int}
theorem e_abs (hm : X.mg "abs" = none) (h : PE X e (tE X.K true env (.int i))) (hg : Gl X "abs" := by rfl) (hv : bootBuiltins "abs" = some (.builtin "abs") := by decide +kernel) (ns : NS X e := by exact fun _ => rfl) : PE X (.Call (.Name "abs" p1) [e] [] pos) (tE X.K m env (.int (if i < 0 then -i else i))) :=
  pmono (pe_callB call_abs hg hm hv (pa_cons h pa_nil (ns [])) (he := ns [])) fun σ H Q ⟨F0, H0, F, ok, k⟩ => ⟨F0, H0, F, ok, fun v F1 H1 g1 x => by
    cases x
    exact ⟨i, rfl, k _ F1 H1 g1 (.int _)⟩⟩
theorem e_intI (hm : X.mg "int" = none) (h : PE X e (tE X.K true env (.int i))) (hg : Gl X "int" := by rfl) (hv : bootBuiltins "int" = some (.type "int") := by decide +kernel) (ns : NS X e := by exact fun _ => rfl) : PE X (.Call (.Name "int" p1) [e] [] pos) (tE X.K m env (.int i)) :=
  pmono (pe_callTy call_int1 hg hm hv (pa_cons h pa_nil (ns [])) (he := ns [])) fun σ H Q ⟨F0, H0, F, ok, k⟩ => ⟨F0, H0, F, ok, fun v F1 H1 g1 x => by
    cases x
    exact .inl ⟨i, rfl, k _ F1 H1 g1 (.int _)⟩⟩
theorem e_intB {t : Bool} (hm : X.mg "int" = none) (h : PE X e (tE X.K true env (.bool t))) (hg : Gl X "int" := by rfl) (hv : bootBuiltins "int" = some (.type "int") := by decide +kernel) (ns : NS X e := by exact fun _ => rfl) : PE X (.Call (.Name "int" p1) [e] [] pos) (tE X.K m env (.int (if t then 1 else 0))) :=
  pmono (pe_callTy call_int1 hg hm hv (pa_cons h pa_nil (ns [])) (he := ns [])) fun σ H Q ⟨F0, H0, F, ok, k⟩ => ⟨F0, H0, F, ok, fun v F1 H1 g1 x => by
    cases x
    exact .inr ⟨t, rfl, k _ F1 H1 g1 (.int _)⟩⟩
theorem cb2 {t : TE} {i j : Int} {z : V} {d : PyData} {r : List V → Hp → VK → Prop} (ha : PE X a (tE X.K true env (.int i))) (hb : PE X b (tE X.K true env (.int j)))
    (h : PE X e (tCB r (tCons (tE X.K true env (.int i)) (tCons (tE X.K true env (.int j)) tNil)))) (hr : ∀ H Q, Q z H → r [.int i, .int j] H Q) (hz : ∀ H, Dq X.K H z d) : PE X e (tE X.K m env d) :=
  pmono h fun σ H Q ⟨F0, H0, F, ok, k⟩ => ⟨F0, H0, F, ok, fun v F1 H1 g1 x => ⟨F0, H0, F1, ok.grow g1, fun w F2 H2 g2 y => by
    cases x
    cases y
    exact hr _ _ (k z F2 H2 (g1.trans g2) (hz _))⟩⟩
theorem e_max2 (hm : X.mg "max" = none) (ha : PE X a (tE X.K true env (.int i))) (hb : PE X b (tE X.K true env (.int j))) (hc : X.calm = true := by rfl) (hg : Gl X "max" := by rfl) (hv : bootBuiltins "max" = some (.builtin "max") := by decide +kernel)
    (na : NS X a := by exact fun _ => rfl) (nb : NS X b := by exact fun _ => rfl) : PE X (.Call (.Name "max" p1) [a, b] [] pos) (tE X.K m env (.int (if j > i then j else i))) :=
  cb2 (t := tC .non) ha hb (pe_callB (call_max2 hc) hg hm hv (pa_cons ha (pa_cons hb pa_nil (nb [])) (na [b])) (he := na [b]) (hpl := by rw [nb []]; rfl)) (fun H Q q => ⟨i, j, rfl, q⟩) fun _ => .int _
theorem e_min2 (hm : X.mg "min" = none) (ha : PE X a (tE X.K true env (.int i))) (hb : PE X b (tE X.K true env (.int j))) (hc : X.calm = true := by rfl) (hg : Gl X "min" := by rfl) (hv : bootBuiltins "min" = some (.builtin "min") := by decide +kernel)
    (na : NS X a := by exact fun _ => rfl) (nb : NS X b := by exact fun _ => rfl) : PE X (.Call (.Name "min" p1) [a, b] [] pos) (tE X.K m env (.int (if j < i then j else i))) :=
  cb2 (t := tC .non) ha hb (pe_callB (call_min2 hc) hg hm hv (pa_cons ha (pa_cons hb pa_nil (nb [])) (na [b])) (he := na [b]) (hpl := by rw [nb []]; rfl)) (fun H Q q => ⟨i, j, rfl, q⟩) fun _ => .int _
theorem e_max2n (hm : X.mg "max" = none) {i j : Nat} (ha : PE X a (tE X.K true env (.int i))) (hb : PE X b (tE X.K true env (.int j))) (hc : X.calm = true := by rfl) (hg : Gl X "max" := by rfl) (hv : bootBuiltins "max" = some (.builtin "max") := by decide +kernel)
    (na : NS X a := by exact fun _ => rfl) (nb : NS X b := by exact fun _ => rfl) : PE X (.Call (.Name "max" p1) [a, b] [] pos) (tE X.K m env (.int ((max i j : Nat) : Int))) := by
  have h := e_max2 (m := m) (p1 := p1) (pos := pos) hm ha hb hc hg hv na nb
  have e : (if (j : Int) > (i : Int) then (j : Int) else (i : Int)) = ((max i j : Nat) : Int) := by split <;> omega
  rwa [e] at h
theorem e_min2n (hm : X.mg "min" = none) {i j : Nat} (ha : PE X a (tE X.K true env (.int i))) (hb : PE X b (tE X.K true env (.int j))) (hc : X.calm = true := by rfl) (hg : Gl X "min" := by rfl) (hv : bootBuiltins "min" = some (.builtin "min") := by decide +kernel)
    (na : NS X a := by exact fun _ => rfl) (nb : NS X b := by exact fun _ => rfl) : PE X (.Call (.Name "min" p1) [a, b] [] pos) (tE X.K m env (.int ((min i j : Nat) : Int))) := by
  have h := e_min2 (m := m) (p1 := p1) (pos := pos) hm ha hb hc hg hv na nb
  have e : (if (j : Int) < (i : Int) then (j : Int) else (i : Int)) = ((min i j : Nat) : Int) := by split <;> omega
  rwa [e] at h
/-- x of an equal int -/
theorem e_int_eq (h : PE X e (tE K m env (.int i))) (q : i = j) : PE X e (tE K m env (.int j)) := q ▸ h
theorem e_eq (h : PE X e (tE K m env d1)) (q : d1 = d2) : PE X e (tE K m env d2) := q ▸ h
theorem o_eq (h : PE X e (tO K env ds1)) (q : ds1 = ds2) : PE X e (tO K env ds2) := q ▸ h
theorem l_eq (h : PE X e (tL K env ds1)) (q : ds1 = ds2) : PE X e (tL K env ds2) := q ▸ h
theorem t_eq {k l : Bool} (h : PT X e (tT K env k)) (q : k = l) : PT X e (tT K env l) := q ▸ h
theorem e_all {bs : List Bool} (hm : X.mg "all" = none) (h : PE X e (tL X.K env (bs.map .bool))) (hg : Gl X "all" := by rfl) (hv : bootBuiltins "all" = some (.builtin "all") := by decide +kernel) (hc : CallR X (.builtin "all") (rAll X.K)) (ns : NS X e := by exact fun _ => rfl) : PE X (.Call (.Name "all" p1) [e] [] pos) (tE X.K m env (.bool (bs.all id))) :=
  pmono (pe_callB hc hg hm hv (pa_cons h pa_nil (ns [])) (he := ns [])) fun σ H Q ⟨F0, H0, F, ok, k⟩ => ⟨F0, H0, F, ok, fun p vs F1 H1 g1 x y => ⟨p, bs, rfl, by rw [DqAll.bls y] at x; exact sqOf x, k _ F1 H1 g1 (.bl _)⟩⟩
theorem e_any {bs : List Bool} (hm : X.mg "any" = none) (h : PE X e (tL X.K env (bs.map .bool))) (hg : Gl X "any" := by rfl) (hv : bootBuiltins "any" = some (.builtin "any") := by decide +kernel) (hc : CallR X (.builtin "any") (rAny X.K)) (ns : NS X e := by exact fun _ => rfl) : PE X (.Call (.Name "any" p1) [e] [] pos) (tE X.K m env (.bool (bs.any id))) :=
  pmono (pe_callB hc hg hm hv (pa_cons h pa_nil (ns [])) (he := ns [])) fun σ H Q ⟨F0, H0, F, ok, k⟩ => ⟨F0, H0, F, ok, fun p vs F1 H1 g1 x y => ⟨p, bs, rfl, by rw [DqAll.bls y] at x; exact sqOf x, k _ F1 H1 g1 (.bl _)⟩⟩
end

/-! ### what is walked -/
structure Gives (K : KF) (F : Hp) (J : It) (ds : List PyData) : Prop where
  go : ∀ (i : Nat) F' H', i < ds.length → Ex F F' → Ex F' H' → J.go i H'
  stop : ∀ (i : Nat) F' H', ds.length ≤ i → Ex F F' → Ex F' H' → J.stop i H'
  yld : ∀ (i : Nat) (d : PyData) F' H' x H'', ds[i]? = some d → Ex F F' → Ex F' H' → J.yld i H' x H'' → ∃ F'', Grow F' H' F'' H'' ∧ Dq K F'' x d
def tI (K : KF) (env : List Sl) (ds : List PyData) : TI := fun σ H R => ∃ F0 H0 F, Ok K F0 H0 env σ F H ∧ ∀ J F' H', Grow F H F' H' → Gives K F' J ds → R J H'
section
variable {tg iter l : Expr}
theorem pimono {t t' : TI} (h : PI X tg iter t) (k : ∀ σ H R, t' σ H R → t σ H R) : PI X tg iter t' := ⟨fun pins s σ H R I q => h.run pins s σ H R I (k σ H R q)⟩
theorem i_list (h : PE X l (tE X.K true env (.list ds))) : PI X tg l (tI X.K env ds) := pimono (pi_list h) fun σ H R ⟨F0, H0, F, ok, k⟩ => ⟨F0, H0, F, ok, fun v F1 H1 g1 x => by
  cases (show Dq X.K F1 v (.list ds) from x) with
  | @lst a vs _ h1 h2 =>
    refine ⟨a, rfl, ⟨vs, sqOf (g1.fh _ _ h1)⟩, k _ F1 H1 g1 ⟨fun i F' H' hi e1 e2 => ?_, fun i F' H' hi e1 e2 => ⟨vs, sqOf (e2 _ _ (e1 _ _ h1)), by rw [h2.length]; exact hi⟩, fun i d F' H' x H'' hd e1 e2 hy => ?_⟩⟩
    · have hl := h2.length
      exact ⟨vs, vs[i], sqOf (e2 _ _ (e1 _ _ h1)), List.getElem?_eq_getElem (by omega)⟩
    · obtain ⟨rfl, hy⟩ := hy
      have hx := hy vs (sqOf (e2 _ _ (e1 _ _ h1)))
      obtain ⟨d', q1, q2⟩ := h2.getV hx
      rw [hd] at q1; cases q1
      exact ⟨F', Grow.refl e2, q2.up e1⟩⟩
theorem i_tup (h : PE X l (tE X.K true env (.tuple ds))) : PI X tg l (tI X.K env ds) := pimono (pi_tup h) fun σ H R ⟨F0, H0, F, ok, k⟩ => ⟨F0, H0, F, ok, fun v F1 H1 g1 x => by
  cases (show Dq X.K F1 v (.tuple ds) from x) with
  | @tup a vs _ h1 h2 =>
    refine ⟨a, rfl, ⟨vs, ex_t g1.fh h1⟩, k _ F1 H1 g1 ⟨fun i F' H' hi e1 e2 => ?_, fun i F' H' hi e1 e2 => ⟨vs, ex_t (e1.trans e2) h1, by rw [h2.length]; exact hi⟩, fun i d F' H' x H'' hd e1 e2 hy => ?_⟩⟩
    · have hl := h2.length
      exact ⟨vs, vs[i], ex_t (e1.trans e2) h1, List.getElem?_eq_getElem (by omega)⟩
    · obtain ⟨rfl, hy⟩ := hy
      have hx := hy vs (ex_t (e1.trans e2) h1)
      obtain ⟨d', q1, q2⟩ := h2.getV hx
      rw [hd] at q1; cases q1
      exact ⟨F', Grow.refl e2, q2.up e1⟩⟩
def rangeD (lo : Int) (n : Nat) : List PyData := (List.range n).map fun (i : Nat) => .int (lo + (i : Int))
theorem gives_rng {F : Hp} (lo : Int) (n : Nat) : Gives K F (Itr lo n) (rangeD lo n) :=
  ⟨fun i F' H' hi _ _ => by
    have : i < n := by simpa [rangeD] using hi
    exact this, fun i F' H' hi _ _ => by
    have : n ≤ i := by simpa [rangeD] using hi
    exact this, fun i d F' H' x H'' hd e1 e2 hy => by
    obtain ⟨rfl, rfl⟩ := hy
    have hi : i < n := by simpa [rangeD] using (List.getElem?_eq_some_iff.mp hd).1
    have : d = .int (lo + (i : Int)) := by
      unfold rangeD at hd
      rw [List.getElem?_map, List.getElem?_range hi] at hd
      exact (Option.some.inj hd).symm
    subst this
    exact ⟨F', Grow.refl e2, .int _⟩⟩
theorem i_rng1 {j : Int} (hm : X.mg "range" = none) (ha : PE X a (tE X.K true env (.int j))) (hj : -(2 ^ 62) ≤ j ∧ j < 2 ^ 62) (hg : Gl X "range" := by rfl) (na : NS X a := by exact fun _ => rfl) : PI X tg (.Call (.Name "range" p1) [a] [] pos) (tI X.K env (rangeD 0 j.toNat)) :=
  pimono (pi_range1 hg hm (pa_cons ha pa_nil (na [])) (na [])) fun σ H R ⟨F0, H0, F, ok, k⟩ => ⟨F0, H0, F, ok, fun v F1 H1 g1 x => by
    cases x
    exact ⟨j, rfl, hj.1, hj.2, k _ F1 H1 g1 (gives_rng 0 _)⟩⟩
theorem i_rng2 {i j : Int} (hm : X.mg "range" = none) (ha : PE X a (tE X.K true env (.int i))) (hb : PE X b (tE X.K true env (.int j))) (hj : -(2 ^ 62) ≤ i ∧ i < 2 ^ 62 ∧ -(2 ^ 62) ≤ j ∧ j < 2 ^ 62) (hg : Gl X "range" := by rfl) (na : NS X a := by exact fun _ => rfl) (nb : NS X b := by exact fun _ => rfl) :
    PI X tg (.Call (.Name "range" p1) [a, b] [] pos) (tI X.K env (rangeD i (j - i).toNat)) :=
  pimono (pi_range2 hg hm (pa_cons ha (pa_cons hb pa_nil (nb [])) (na [b])) (by rw [na [b], nb []]; rfl) (nb [])) fun σ H R ⟨F0, H0, F, ok, k⟩ => ⟨F0, H0, F, ok, fun v F1 H1 g1 x => ⟨F0, H0, F1, ok.grow g1, fun w F2 H2 g2 y => by
    cases x
    cases y
    exact ⟨i, j, rfl, hj, k _ F2 H2 (g1.trans g2) (gives_rng i _)⟩⟩⟩
end

/-! ### targets -/
/-- g stores the datum d into slots (ix names them), that makes of env f env -/
def Asg (K : KF) (g : TG) (d : PyData) (f : List Sl → List Sl) (ix : List Nat) : Prop := ∀ (F0 H0 F H : Hp) (env : List Sl) (σ : St) (v : V) (Q : St → Hp → Prop), Ok K F0 H0 env σ F H → Dq K F v d →
  (∀ σ', Ok K F0 H0 (f env) σ' F H → (∀ vs : List Nat, (∀ i ∈ ix, i ∈ vs) → wipe σ' vs = wipe σ vs) → Q σ' H) → g v σ H Q
theorem wipe_set {i : Nat} {x : Option V} : ∀ {vs : List Nat} {σ : St}, i ∈ vs → wipe (σ.set i x) vs = wipe σ vs
  | [], _, h => by cases h
  | v :: vs, σ, h => by
    unfold wipe
    by_cases hv : i = v
    · subst hv
      by_cases hi : i ∈ vs
      · rw [wipe_set hi]
      · have : ∀ (vs : List Nat) (σ : St), i ∉ vs → wipe (σ.set i x) vs = (wipe σ vs).set i x := by
          intro vs
          induction vs with
          | nil => intro σ _; rfl
          | cons w ws ih =>
            intro σ hn
            simp only [List.mem_cons, not_or] at hn
            unfold wipe
            rw [ih σ hn.2, List.set_comm _ _ hn.1]
        rw [this vs σ hi, List.set_set]
    · rw [wipe_set (by simpa [hv] using h)]
theorem asg_name {i : Nat} : Asg K (gName i) d (fun env => env.set i (.dat d)) [i] := fun F0 H0 F H env σ v Q ok hd k => k _ (ok.setDat hd) fun vs h => wipe_set (h i (by simp))
theorem asg_nameA {i : Nat} (d : PyData) : Asg K (gName i) d (fun env => env.set i (.dat d)) [i] := asg_name
def AsgS (K : KF) (g : TGs) (ds : List PyData) (f : List Sl → List Sl) (ix : List Nat) : Prop := ∀ (F0 H0 F H : Hp) (env : List Sl) (σ : St) (vs : List V) (Q : St → Hp → Prop), Ok K F0 H0 env σ F H → DqAll K F vs ds →
  (∀ σ', Ok K F0 H0 (f env) σ' F H → (∀ vs : List Nat, (∀ i ∈ ix, i ∈ vs) → wipe σ' vs = wipe σ vs) → Q σ' H) → g vs σ H Q
theorem asg_nil : AsgS K gNil [] (fun env => env) [] := fun F0 H0 F H env σ vs Q ok hd k => by
  cases hd
  exact ⟨rfl, k σ ok fun _ _ => rfl⟩
theorem asg_cons {g : TG} {gs : TGs} {f fs : List Sl → List Sl} {ix jx : List Nat} (h1 : Asg K g d f ix) (h2 : AsgS K gs ds fs jx) : AsgS K (gCons g gs) (d :: ds) (fun env => fs (f env)) (ix ++ jx) := fun F0 H0 F H env σ vs Q ok hd k => by
  cases hd with
  | cons x1 x2 =>
    refine ⟨_, _, rfl, h1 F0 H0 F H env σ _ _ ok x1 fun σ1 ok1 w1 => h2 F0 H0 F H _ σ1 _ _ ok1 x2 fun σ2 ok2 w2 => k σ2 ok2 fun vs h => ?_⟩
    rw [w2 vs fun i hi => h i (List.mem_append_right _ hi), w1 vs fun i hi => h i (List.mem_append_left _ hi)]
theorem asg_tup {gs : TGs} {f : List Sl → List Sl} {ix : List Nat} {n : Nat} (h : AsgS K gs ds f ix) (hn : ds.length = n) : Asg K (gTup K n gs) (.tuple ds) f ix := fun F0 H0 F H env σ v Q ok hd k => by
  cases hd with
  | tup h1 h2 => exact ⟨_, _, rfl, ex_t ok.g.fh h1, by rw [h2.length, hn], h F0 H0 F H env σ _ _ ok h2 k⟩

/-! ### list comprehensions -/
def wipeE (env : List Sl) : List Nat → List Sl
  | [] => env
  | v :: vs => (wipeE env vs).set v .no
theorem Ok.wiped {F0 H0 F H : Hp} {σ : St} (ok : Ok K F0 H0 env σ F H) : ∀ vs : List Nat, Ok K F0 H0 (wipeE env vs) (wipe σ vs) F H
  | [] => ok
  | v :: vs => (Ok.wiped ok vs).setNo
abbrev Blk (X : Cx) (scope : Scope) (P : Cx → Prop) : Prop := ∀ (s : Shared) (H : Hp) (C : Addr) (cl : List (Str × Addr)) (fp : List Addr), P (X.blk s H scope (compEnvC scope cl C X.env) fp)
theorem pex {α : Type} {t : α → TE} (h : ∀ z, PE X e (t z)) : PE X e (fun σ H Q => ∃ z, t z σ H Q) := ⟨fun pins s σ H Q I ⟨z, q⟩ => (h z).run pins s σ H Q I q⟩
theorem ptex {α : Type} {t : α → TT} {ifs : List Expr} (h : ∀ z, PTs X ifs (t z)) : PTs X ifs (fun σ H Q => ∃ z, t z σ H Q) := ⟨fun pins s σ H Q I ⟨z, q⟩ => (h z).run pins s σ H Q I q⟩
theorem set_wipe {σ : St} {v : Nat} : ∀ {ws : List Nat}, v ∈ ws → (wipe σ ws).set v none = wipe σ ws
  | [], h => by cases h
  | w :: ws, h => by
    show ((wipe σ ws).set w none).set v none = (wipe σ ws).set w none
    by_cases e : v = w
    · subst e; rw [List.set_set]
    · rw [List.set_comm _ _ (fun q => e q.symm), set_wipe (by simpa [e] using h)]
theorem wipe_wipe {σ : St} : ∀ (vs ws : List Nat), (∀ v ∈ vs, v ∈ ws) → wipe (wipe σ ws) vs = wipe σ ws
  | [], _, _ => rfl
  | v :: vs, ws, h => by
    show (wipe (wipe σ ws) vs).set v none = wipe σ ws
    rw [wipe_wipe vs ws fun u hu => h u (by simp [hu]), set_wipe (h v (by simp))]
theorem lc_read {α : Type} {zs : List α} {enc : α → PyData} {g : TG} {ix : List Nat} {f : α → List Sl → List Sl} {tb : α → Bool} {y : α → PyData} {own : List Nat} (hl : zs.length ≤ 1000000)
    (hf : ∀ z ∈ zs, Asg K g (enc z) (f z) ix) (hix : ∀ i ∈ ix, i ∈ own) {σ : St} {H : Hp} {Q : VK} (h : tO K env ((zs.filter tb).map y) σ H Q) :
    tLc (tI K env (zs.map enc)) g (fun σ H Q => ∃ z, (z ∈ zs) ∧ tT K (f z (wipeE env own)) (tb z) σ H Q) (fun σ H Q => ∃ z, (z ∈ zs ∧ tb z = true) ∧ tE K true (f z (wipeE env own)) (y z) σ H Q) own σ H Q := by
  obtain ⟨F0, H0, F, ok, k⟩ := h
  refine ⟨F0, H0, F, ok, fun J F1 H1 g1 gv D hD => ?_⟩
  have ok1 := ok.grow g1
  refine ⟨fun i n H' => i ≤ zs.length ∧ n = zs.length - i ∧ ∃ F' acc, Grow F1 H1 F' H' ∧ F' D = none ∧ H' D = some (.lst acc) ∧ DqAll K F' acc (((zs.take i).filter tb).map y),
    ⟨zs.length, Nat.zero_le _, rfl, F1, [], Grow.own g1.fh hD, g1.fh.back hD, upd_same, .nil⟩, ?_⟩
  rintro i n H' ⟨hi, rfl, F', acc, g2, fd, hd, ha⟩
  by_cases hlt : i < zs.length
  · have hz : zs[i]? = some zs[i] := List.getElem?_eq_getElem hlt
    have hm : zs[i] ∈ zs := List.getElem_mem hlt
    refine .inr ⟨gv.go i F' H' (by rw [List.length_map]; exact hlt) g2.ff g2.fh, fun H2 => ∃ F2 acc, Grow F1 H1 F2 H2 ∧ F2 D = none ∧ H2 D = some (.lst acc) ∧ DqAll K F2 acc (((zs.take (i + 1)).filter tb).map y), fun H2 ⟨F2, acc2, q1, q2, q3, q4⟩ => ⟨zs.length - (i + 1), by omega, hlt, rfl, F2, acc2, q1, q2, q3, q4⟩, fun x H3 hy => ?_⟩
    obtain ⟨F3, g3, x3⟩ := gv.yld i (enc zs[i]) F' H' x H3 (by rw [List.getElem?_map, hz]; rfl) g2.ff g2.fh hy
    have ok3 : Ok K F0 H0 (wipeE env own) (wipe σ own) F3 H3 := (ok1.grow (g2.trans g3)).wiped own
    have hD3 : F3 D = none := g3.old D fd (by rw [hd]; simp)
    have hH3 : H3 D = some (.lst acc) := g3.hh _ _ hd
    refine hf zs[i] hm F0 H0 F3 H3 _ _ x _ ok3 x3 fun σ4 ok4 w4 => ⟨?_, zs[i], hm, F0, H0, F3, ok4, fun F5 H5 g5 => ?_⟩
    · rw [w4 own hix]
      exact wipe_wipe own own fun _ h => h
    · have hD5 : F5 D = none := g5.old D hD3 (by rw [hH3]; simp)
      have hH5 : H5 D = some (.lst acc) := g5.hh _ _ hH3
      have ht : (zs.take (i + 1)) = zs.take i ++ [zs[i]] := by rw [List.take_add_one, hz]; rfl
      cases hb : tb zs[i] with
      | true =>
        show ∃ z, _
        refine ⟨zs[i], ⟨hm, hb⟩, F0, H0, F5, ok4.grow g5, fun v F6 H6 g6 x6 => ⟨acc, g6.hh _ _ hH5, ?_, F6, acc ++ [v], ?_, g6.old D hD5 (by rw [hH5]; simp), upd_same, ?_⟩⟩
        · have h1 := ha.length
          have h2 : (((zs.take i).filter tb).map y).length ≤ zs.length := by
            rw [List.length_map]
            exact Nat.le_trans (List.length_filter_le _ _) (by rw [List.length_take]; omega)
          have h3 : sizeLine = 16777216 := sizeLine_eq
          omega
        · exact ((((g2.trans g3).trans g5).trans g6)).put hD (g6.old D hD5 (by rw [hH5]; simp))
        · rw [ht, List.filter_append, List.map_append, List.filter_cons, if_pos hb]
          exact (ha.up ((g3.ff.trans g5.ff).trans g6.ff)).append (.cons x6 .nil)
      | false =>
        refine ⟨F5, acc, (g2.trans g3).trans g5, hD5, hH5, ?_⟩
        rw [ht, List.filter_append, List.map_append, List.filter_cons, if_neg (by rw [hb]; decide)]
        show DqAll K F5 acc (_ ++ [])
        rw [List.append_nil]
        exact ha.up (g3.ff.trans g5.ff)
  · have e : i = zs.length := by omega
    subst e
    refine .inl ⟨gv.stop _ F' H' (by rw [List.length_map]; exact Nat.le_refl _) g2.ff g2.fh, k D acc F' H' (g1.trans g2) (g1.hh.back hD) fd hd ?_⟩
    rw [List.take_length] at ha
    exact ha
end
end D3
namespace D3
open PySem PySem.Spec L2

/-! ### comprehensions -/
section
variable {X : Cx} {K : KF} {e a b c : Expr} {es : List Expr} {m m1 m2 m3 : Bool} {env : List Sl} {d d1 d2 : PyData} {ds ds1 ds2 : List PyData} {pos p1 p2 p3 p4 : Pos}
theorem ts_nil : PTs X [] (tT K env true) := ⟨fun pins s σ H Q I ⟨F0, H0, F, ok, q⟩ => pts_nil.run pins s σ H Q I (q F H (Grow.refl ok.g.fh))⟩
theorem ts_one {k : Bool} (h : PT X c (tT K env k)) : PTs X [c] (tT K env k) := pts_one h
theorem o_lc {α : Type} {zs : List α} {enc : α → PyData} {g : TG} {ix : List Nat} {f : α → List Sl → List Sl} {tb : α → Bool} {y : α → PyData} {own : List (Str × Nat)} {tg iter elt : Expr} {ifs : List Expr} {scope : Scope}
    (hN : X.N.Nodup) (hi : PI X tg iter (tI X.K env (zs.map enc))) (hl : zs.length ≤ 1000000) (okb : blkC X.N X.env.scope scope own = true) (hg : Blk X scope fun X' => PG X' tg g)
    (hf : ∀ z ∈ zs, Asg X.K g (enc z) (f z) ix) (hix : ∀ i ∈ ix, i ∈ own.map (·.2))
    (ht : ∀ z ∈ zs, Blk X scope fun X' => PTs X' ifs (tT X.K (f z (wipeE env (own.map (·.2)))) (tb z)))
    (he : ∀ z ∈ zs, tb z = true → Blk X scope fun X' => PE X' elt (tE X.K true (f z (wipeE env (own.map (·.2)))) (y z)))
    (hc : X.calm = true := by rfl) (hs : ∀ x, foldedSetIterable iter X.env x = pure x := by intro _; rfl) : PE X (.ListComp elt [⟨tg, iter, ifs, 0⟩] scope pos) (tO X.K env ((zs.filter tb).map y)) :=
  pmono (pe_lc (te := fun σ H Q => ∃ z, (z ∈ zs ∧ tb z = true) ∧ tE X.K true (f z (wipeE env (own.map (·.2)))) (y z) σ H Q) (tt := fun σ H Q => ∃ z, (z ∈ zs) ∧ tT X.K (f z (wipeE env (own.map (·.2)))) (tb z) σ H Q) hc hN hi (blkOk_by okb) hg
    (fun s H C cl fp => ⟨fun pins s1 σ H Q I ⟨z, hz, q⟩ => (ht z hz s _ C cl fp).run pins s1 σ H Q I q⟩) (fun s H C cl fp => ⟨fun pins s1 σ H Q I ⟨z, hz, q⟩ => (he z hz.1 hz.2 s _ C cl fp).run pins s1 σ H Q I q⟩) hs) fun σ H Q h => lc_read hl hf hix h
theorem map_filter_true {α β : Type} (zs : List α) (y : α → β) : (zs.filter fun _ => true).map y = zs.map y := by
  rw [List.filter_eq_self.mpr fun _ _ => rfl]
/-- no test -/
theorem o_lcA {α : Type} {zs : List α} {enc : α → PyData} {g : TG} {ix : List Nat} {f : α → List Sl → List Sl} {y : α → PyData} {own : List (Str × Nat)} {tg iter elt : Expr} {scope : Scope}
    (hN : X.N.Nodup) (hi : PI X tg iter (tI X.K env (zs.map enc))) (hl : zs.length ≤ 1000000) (okb : blkC X.N X.env.scope scope own = true) (hg : Blk X scope fun X' => PG X' tg g)
    (hf : ∀ z ∈ zs, Asg X.K g (enc z) (f z) ix) (hix : ∀ i ∈ ix, i ∈ own.map (·.2))
    (he : ∀ z ∈ zs, Blk X scope fun X' => PE X' elt (tE X.K true (f z (wipeE env (own.map (·.2)))) (y z)))
    (hc : X.calm = true := by rfl) (hs : ∀ x, foldedSetIterable iter X.env x = pure x := by intro _; rfl) : PE X (.ListComp elt [⟨tg, iter, [], 0⟩] scope pos) (tO X.K env (zs.map y)) := by
  have h := o_lc (pos := pos) (tb := fun _ => true) hN hi hl okb hg hf hix (fun z _ s H C cl fp => ts_nil) (fun z hz _ => he z hz) hc hs
  rwa [map_filter_true] at h

/-! ### statements -/
inductive RS where
  | dat (d : PyData)
  | own (ds : List PyData)
  | exc (C : Addr) (d : PyData) (ep : List Sl → Prop) (W : WX)
structure DE where
  nx : List Sl → Prop
  rt : RS → Prop
  bk : List Sl → Prop := fun _ => False
  ct : List Sl → Prop := fun _ => False
def RtOk (K : KF) (F0 H0 : Hp) (r : RS) (Q : VK) : Prop := match r with
  | .dat d => ∀ v F' H', Grow F0 H0 F' H' → Dq K F' v d → Q v H'
  | .own ds => ∀ p vs F' H', Grow F0 H0 F' H' → H0 p = none → F' p = none → H' p = some (.lst vs) → DqAll K F' vs ds → Q (.ref p) H'
  | .exc C d ep W => ∀ env σ v dd F H, ep env → Ok K F0 H0 env σ F H → H dd = some (.xd [("at", v)]) → Dq K F v d → W (.ref C) (some dd) σ H
def tS (K : KF) (env : List Sl) (E : DE) : TS := fun D σ H => ∃ F0 H0 F, Ok K F0 H0 env σ F H ∧ (∀ env' σ' F' H', E.nx env' → Ok K F0 H0 env' σ' F' H' → D.nx σ' H') ∧
  (∀ env' σ' F' H', E.bk env' → Ok K F0 H0 env' σ' F' H' → D.bk σ' H') ∧ (∀ env' σ' F' H', E.ct env' → Ok K F0 H0 env' σ' F' H' → D.ct σ' H') ∧ ∀ r, E.rt r → RtOk K F0 H0 r D.rt
abbrev DE.to (E : DE) (M : List Sl → Prop) : DE := ⟨M, E.rt, E.bk, E.ct⟩
variable {E : DE} {st : Stmt} {rest : List Stmt} {sts : List Stmt}
theorem s_nil (h : E.nx env) : PSs X [] (tS K env E) := pssmono pss_nil fun D σ H ⟨F0, H0, F, ok, n, _⟩ => n env σ F H h ok
theorem s_cons {M : List Sl → Prop} (h1 : PS X st (tS K env (E.to M))) (h2 : ∀ env', M env' → PSs X rest (tS K env' E)) : PSs X (st :: rest) (tS K env E) :=
  pssmono (pss_cons (u := fun D σ H => ∃ env', M env' ∧ tS K env' E D σ H) h1 ⟨fun pins s σ H D I ⟨e', hm, q⟩ => (h2 e' hm).run pins s σ H D I q⟩) fun D σ H ⟨F0, H0, F, ok, n, bk, ct, rt⟩ =>
    ⟨F0, H0, F, ok, fun e' σ' F' H' hm ok' => ⟨e', hm, F0, H0, F', ok', n, bk, ct, rt⟩, bk, ct, rt⟩
/-- one way on -/
theorem s_then {env' : List Sl} (h1 : PS X st (tS K env (E.to (· = env')))) (h2 : PSs X rest (tS K env' E)) : PSs X (st :: rest) (tS K env E) := s_cons h1 fun e q => q ▸ h2
/-- no way on -/
theorem s_last (h1 : PS X st (tS K env E)) : PSs X [st] (tS K env E) := pss_one h1
theorem s_stop (h1 : PS X st (tS K env (E.to fun _ => False))) : PSs X (st :: rest) (tS K env E) := s_cons h1 fun e q => q.elim
theorem s_pass (h : E.nx env) : PS X (.Pass pos) (tS K env E) := psmono ps_pass fun D σ H ⟨F0, H0, F, ok, n, _⟩ => n env σ F H h ok
theorem s_brk (h : E.bk env) : PS X (.Break pos) (tS K env E) := psmono ps_break fun D σ H ⟨F0, H0, F, ok, _, n, _⟩ => n env σ F H h ok
theorem s_cont (h : E.ct env) : PS X (.Continue pos) (tS K env E) := psmono ps_continue fun D σ H ⟨F0, H0, F, ok, _, _, n, _⟩ => n env σ F H h ok
theorem s_set {x : Str} (i : Nat) (hN : X.N.Nodup) (hi : X.N[i]? = some x) (he : PE X e (tE K true env d)) (h : E.nx (env.set i (.dat d))) (hx : Loc X.env.scope x := by first | exact .inl rfl | exact .inr rfl)
    (hs : swapsWith e (some (.Name x p1)) pos.line X.env = pure false := by rfl) (hf : X.fn x = true ∨ X.env.scope.names.lookup x = some .local := by first | exact .inl rfl | exact .inr rfl) : PS X (.Assign [.Name x p1] e pos) (tS K env E) :=
  psmono (ps_set hN hi hx he hs hf) fun D σ H ⟨F0, H0, F, ok, n, _⟩ => ⟨F0, H0, F, ok, fun v F1 H1 g1 x1 => n _ _ F1 H1 h ((ok.grow g1).setDat x1)⟩
theorem own_new {F0 H0 F H F1 H1 : Hp} {σ : St} {p : Addr} (ok : Ok K F0 H0 env σ F H) (hp : H p = none) : ∀ (j : Nat) (es : List PyData), env[j]? = some (.own es) → σ[j]? ≠ some (some (.ref p)) := fun j es h z => by
  obtain ⟨q, vs, h1, _, _, h2, _⟩ := ok.own j es h
  rw [z] at h1; cases h1
  rw [hp] at h2; cases h2
theorem s_setO {x : Str} (i : Nat) (hN : X.N.Nodup) (hi : X.N[i]? = some x) (he : PE X e (tO K env ds)) (h : E.nx (env.set i (.own ds))) (hx : Loc X.env.scope x := by first | exact .inl rfl | exact .inr rfl)
    (hs : swapsWith e (some (.Name x p1)) pos.line X.env = pure false := by rfl) (hf : X.fn x = true ∨ X.env.scope.names.lookup x = some .local := by first | exact .inl rfl | exact .inr rfl) : PS X (.Assign [.Name x p1] e pos) (tS K env E) :=
  psmono (ps_set hN hi hx he hs hf) fun D σ H ⟨F0, H0, F, ok, n, _⟩ => ⟨F0, H0, F, ok, fun p vs F1 H1 g1 h1 h2 h3 h4 => n _ _ F1 H1 h ((ok.grow g1).setOwn h2 (ok.g.hh.back h1) h3 h4 (own_new (F1 := F1) (H1 := H1) ok h1))⟩
/-- y = [.. for ..] -/
theorem s_setLc {α : Type} {zs : List α} {enc : α → PyData} {g : TG} {ix : List Nat} {f : α → List Sl → List Sl} {tb : α → Bool} {y : α → PyData} {own : List (Str × Nat)} {tg iter elt : Expr} {ifs : List Expr} {scope : Scope} {x : Str} {py spos : Pos} (i : Nat)
    (hN : X.N.Nodup) (hxi : X.N[i]? = some x) (hi : PI X tg iter (tI X.K env (zs.map enc))) (hl : zs.length ≤ 1000000) (okb : blkC X.N X.env.scope scope own = true) (hg : Blk X scope fun X' => PG X' tg g)
    (hf : ∀ z ∈ zs, Asg X.K g (enc z) (f z) ix) (hix : ∀ i ∈ ix, i ∈ own.map (·.2))
    (ht : ∀ z ∈ zs, Blk X scope fun X' => PTs X' ifs (tT X.K (f z (wipeE env (own.map (·.2)))) (tb z)))
    (he : ∀ z ∈ zs, tb z = true → Blk X scope fun X' => PE X' elt (tE X.K true (f z (wipeE env (own.map (·.2)))) (y z)))
    (h : E.nx (env.set i (.own ((zs.filter tb).map y)))) (hsw : swapsWith (.ListComp elt [⟨tg, iter, ifs, 0⟩] scope pos) (some (.Name x py)) spos.line X.env = pure true) (hyl : X.env.scope.names.lookup x = some .local := by rfl)
    (hc : X.calm = true := by rfl) (hs : ∀ x, foldedSetIterable iter X.env x = pure x := by intro _; rfl) : PS X (.Assign [.Name x py] (.ListComp elt [⟨tg, iter, ifs, 0⟩] scope pos) spos) (tS X.K env E) :=
  psmono (ps_setLc (te := fun σ H Q => ∃ z, (z ∈ zs ∧ tb z = true) ∧ tE X.K true (f z (wipeE env (own.map (·.2)))) (y z) σ H Q) (tt := fun σ H Q => ∃ z, (z ∈ zs) ∧ tT X.K (f z (wipeE env (own.map (·.2)))) (tb z) σ H Q) hc hN hxi hyl hsw hi (blkOk_by okb) hg
    (fun s H C cl fp => ⟨fun pins s1 σ H Q I ⟨z, hz, q⟩ => (ht z hz s _ C cl fp).run pins s1 σ H Q I q⟩) (fun s H C cl fp => ⟨fun pins s1 σ H Q I ⟨z, hz, q⟩ => (he z hz.1 hz.2 s _ C cl fp).run pins s1 σ H Q I q⟩) hs) fun D σ H ⟨F0, H0, F, ok, n, _⟩ =>
      lc_read hl hf hix ⟨F0, H0, F, ok, fun p vs F1 H1 g1 h1 h2 h3 h4 => n _ _ F1 H1 h ((ok.grow g1).setOwn h2 (ok.g.hh.back h1) h3 h4 (own_new (F1 := F1) (H1 := H1) ok h1))⟩
theorem s_setLcA {α : Type} {zs : List α} {enc : α → PyData} {g : TG} {ix : List Nat} {f : α → List Sl → List Sl} {y : α → PyData} {own : List (Str × Nat)} {tg iter elt : Expr} {scope : Scope} {x : Str} {py spos : Pos} (i : Nat)
    (hN : X.N.Nodup) (hxi : X.N[i]? = some x) (hi : PI X tg iter (tI X.K env (zs.map enc))) (hl : zs.length ≤ 1000000) (okb : blkC X.N X.env.scope scope own = true) (hg : Blk X scope fun X' => PG X' tg g)
    (hf : ∀ z ∈ zs, Asg X.K g (enc z) (f z) ix) (hix : ∀ i ∈ ix, i ∈ own.map (·.2))
    (he : ∀ z ∈ zs, Blk X scope fun X' => PE X' elt (tE X.K true (f z (wipeE env (own.map (·.2)))) (y z)))
    (h : E.nx (env.set i (.own (zs.map y)))) (hsw : swapsWith (.ListComp elt [⟨tg, iter, [], 0⟩] scope pos) (some (.Name x py)) spos.line X.env = pure true) (hyl : X.env.scope.names.lookup x = some .local := by rfl)
    (hc : X.calm = true := by rfl) (hs : ∀ x, foldedSetIterable iter X.env x = pure x := by intro _; rfl) : PS X (.Assign [.Name x py] (.ListComp elt [⟨tg, iter, [], 0⟩] scope pos) spos) (tS X.K env E) :=
  s_setLc (tb := fun _ => true) i hN hxi hi hl okb hg hf hix (fun z _ s H C cl fp => ts_nil) (fun z hz _ => he z hz) (by rw [map_filter_true]; exact h) hsw hyl hc hs
theorem s_if {k : Bool} {t1 t2 : List Stmt} (hc : PT X c (tT K env k)) (h1 : k = true → PSs X t1 (tS K env E)) (h2 : k = false → PSs X t2 (tS K env E)) : PS X (.If c t1 t2 pos) (tS K env E) := by
  have never : ∀ {sts : List Stmt}, PSs X sts (fun _ _ _ => False) := fun {sts} => ⟨fun _ _ _ _ _ _ h => h.elim⟩
  cases k with
  | true => exact psmono (ps_if hc (h1 rfl) never) fun D σ H ⟨F0, H0, F, ok, r⟩ => ⟨F0, H0, F, ok, fun F1 H1 g1 => ⟨F0, H0, F1, ok.grow g1, r⟩⟩
  | false => exact psmono (ps_if hc never (h2 rfl)) fun D σ H ⟨F0, H0, F, ok, r⟩ => ⟨F0, H0, F, ok, fun F1 H1 g1 => ⟨F0, H0, F1, ok.grow g1, r⟩⟩
theorem s_ret (he : PE X e (tE K true env d)) (h : E.rt (.dat d)) : PS X (.Return (some e) pos) (tS K env E) :=
  psmono (ps_ret he) fun D σ H ⟨F0, H0, F, ok, n, b, c, r⟩ => ⟨F0, H0, F, ok, fun v F1 H1 g1 x1 => r _ h v F1 H1 (ok.g.trans g1) x1⟩
theorem s_retO (he : PE X e (tO K env ds)) (h : E.rt (.own ds)) : PS X (.Return (some e) pos) (tS K env E) :=
  psmono (ps_ret he) fun D σ H ⟨F0, H0, F, ok, n, b, c, r⟩ => ⟨F0, H0, F, ok, fun p vs F1 H1 g1 h1 h2 h3 h4 => r _ h p vs F1 H1 (ok.g.trans g1) (ok.g.hh.back h1) h2 h3 h4⟩
theorem s_retN (h : E.rt (.dat .none)) : PS X (.Return none pos) (tS K env E) :=
  psmono ps_retN fun D σ H ⟨F0, H0, F, ok, n, b, c, r⟩ => r _ h .non F H ok.g .non
theorem s_retV {x : Str} (i : Nat) (hi : X.N[i]? = some x) (hv : Vis X.env.scope x) (ho : env[i]? = some (.own ds)) (h : E.rt (.own ds)) (hd : (x == ("__debug__" : Str)) = false := by decide) (hcd : (x == ("__classdict__" : Str)) = false := by decide) : PS X (.Return (some (.Name x p1)) pos) (tS K env E) :=
  psmono (ps_ret (pe_var hi hv hd hcd)) fun D σ H ⟨F0, H0, F, ok, n, b, c, r⟩ => by
    obtain ⟨p, vs, h1, h2, h3, h4, h5⟩ := ok.own i ds ho
    exact ⟨.ref p, h1, r _ h p vs F H ok.g h3 h2 h4 h5⟩
theorem s_app {x : Str} (i : Nat) (hi : X.N[i]? = some x) (hv : Vis X.env.scope x) (ho : env[i]? = some (.own ds)) (he : PE X e (tE X.K true env d)) (hz : ds.length < sizeLine) (h : E.nx (env.set i (.own (ds ++ [d]))))
    (hd : (x == ("__debug__" : Str)) = false := by decide) (hcd : (x == ("__classdict__" : Str)) = false := by decide) (na : NS X e := by exact fun _ => rfl)
    (hbase : attributeBase (.Name x p1) "append" X.env (eval (.Name x p1) X.env) = eval (.Name x p1) X.env := by rfl) (hline : (p2.endLine == p3.line) = true := by rfl)
    (hs : swapsWith (.Call (.Attribute (.Name x p1) "append" p2) [e] [] p3) none pos.line X.env = pure false := by rfl) : PS X (.Expr (.Call (.Attribute (.Name x p1) "append" p2) [e] [] p3) pos) (tS X.K env E) :=
  psmono (ps_expr (pe_bm (hline := hline) PySem.F.plainAttrs_list PySem.F.slot_list_append PySem.F.type_list_append mt_append (pe_var hi hv hd hcd) (pa_cons he pa_nil (na [])) (hs := na []) (hfew := by rw [na []]; rfl) (hbase := hbase)) hs) fun D σ H ⟨F0, H0, F, ok, n, _⟩ => by
    obtain ⟨p, vs, h1, h2, h3, h4, h5⟩ := ok.own i ds ho
    refine ⟨.ref p, h1, .inl ⟨rfl, _, .inl (.inl h4)⟩, F0, H0, F, ok, fun v F1 H1 g1 x1 => ?_⟩
    have h6 := g1.hh _ _ h4
    refine ⟨p, vs, v, rfl, rfl, h6, by rw [h5.length]; exact hz, n _ _ F1 _ h ((ok.grow g1).put ho h1 ((h5.up g1.ff).append (.cons x1 .nil)))⟩
theorem s_setIx {x : Str} {k : Int} {j : Nat} (i : Nat) (hi : X.N[i]? = some x) (hv : Vis X.env.scope x) (ho : env[i]? = some (.own ds)) (he : PE X e (tE X.K true env d)) (hb : PE X b (tE X.K true env (.int k))) (hj : ixN ds.length k = some j) (h : E.nx (env.set i (.own (ds.set j d))))
    (hd : (x == ("__debug__" : Str)) = false := by decide) (hcd : (x == ("__classdict__" : Str)) = false := by decide) (hg : ∀ {t : TSet}, PSet X t → PG X (.Subscript (.Name x p1) b p2) (gSub (tVar i) (tE X.K true env (.int k)) t))
    (hs : swapsWithSole [.Subscript (.Name x p1) b p2] e pos.line X.env = pure false := by rfl) (hw : swappedStores [.Subscript (.Name x p1) b p2] e X.env = pure none := by rfl) : PS X (.Assign [.Subscript (.Name x p1) b p2] e pos) (tS X.K env E) :=
  psmono (ps_asg he (hg set_list) hs hw) fun D σ H ⟨F0, H0, F, ok, n, _⟩ => ⟨F0, H0, F, ok, fun v F1 H1 g1 x1 => by
    obtain ⟨p, vs, h1, h2, h3, h4, h5⟩ := ok.own i ds ho
    refine ⟨.ref p, h1, F0, H0, F1, ok.grow g1, fun w F2 H2 g2 x2 => ?_⟩
    cases x2
    exact ⟨p, vs, k, j, rfl, rfl, g2.hh _ _ (g1.hh _ _ h4), by rw [h5.length]; exact hj, n _ _ F2 _ h (((ok.grow g1).grow g2).put ho h1 (DqAll.set (x1.up g2.ff) j (h5.up (g1.ff.trans g2.ff))))⟩⟩
theorem s_drop (he : PE X e (tE K true env d)) (h : E.nx env) (hs : swapsWith e none pos.line X.env = pure false := by rfl) : PS X (.Expr e pos) (tS K env E) :=
  psmono (ps_expr he hs) fun D σ H ⟨F0, H0, F, ok, n, _⟩ => ⟨F0, H0, F, ok, fun v F1 H1 g1 x1 => n _ _ F1 H1 h (ok.grow g1)⟩

/-! ### weaker states -/
def LeE : List Sl → List Sl → Prop
  | [], [] => True
  | a :: as, b :: bs => (b = .no ∨ a = b) ∧ LeE as bs
  | _, _ => False
theorem LeE.refl : ∀ env : List Sl, LeE env env
  | [] => trivial
  | _ :: as => ⟨.inr rfl, LeE.refl as⟩
theorem LeE.get : ∀ {as bs : List Sl} {i : Nat} {s : Sl}, LeE as bs → bs[i]? = some s → s ≠ .no → as[i]? = some s
  | [], [], i, s, _, h, _ => by simp at h
  | a :: as, b :: bs, 0, s, h, e, n => by
    simp at e; subst e
    rcases h.1 with h | h
    · exact absurd h n
    · rw [h]; rfl
  | a :: as, b :: bs, i + 1, s, h, e, n => by
    have := LeE.get (i := i) h.2 (by simpa using e) n
    simpa using this
  | [], _ :: _, _, _, h, _, _ => h.elim
  | _ :: _, [], _, _, h, _, _ => h.elim
theorem LeE.len : ∀ {as bs : List Sl}, LeE as bs → as.length = bs.length
  | [], [], _ => rfl
  | a :: as, b :: bs, h => by simp [LeE.len h.2]
  | [], _ :: _, h => h.elim
  | _ :: _, [], h => h.elim
theorem Ok.le {F0 H0 F H : Hp} {σ : St} {env' : List Sl} (ok : Ok K F0 H0 env σ F H) (h : LeE env env') : Ok K F0 H0 env' σ F H :=
  ⟨ok.g, fun i d e => ok.dat i d (h.get e (by intro z; cases z)), fun i d e => ok.own i d (h.get e (by intro z; cases z)), fun i j ds es p e1 e2 => ok.sep i j ds es p (h.get e1 (by intro z; cases z)) (h.get e2 (by intro z; cases z)),
    fun i d e => ok.scr i d (h.get e (by intro z; cases z)), fun i a dd d e => ok.exc i a dd d (h.get e (by intro z; cases z)), by rw [ok.len, h.len]⟩
theorem s_le {env' : List Sl} (h : LeE env env') (k : PSs X sts (tS K env' E)) : PSs X sts (tS K env E) := pssmono k fun D σ H ⟨F0, H0, F, ok, r⟩ => ⟨F0, H0, F, ok.le h, r⟩
theorem s_le1 {env' : List Sl} (h : LeE env env') (k : PS X st (tS K env' E)) : PS X st (tS K env E) := psmono k fun D σ H ⟨F0, H0, F, ok, r⟩ => ⟨F0, H0, F, ok.le h, r⟩
theorem s_frz {i : Nat} (ho : env[i]? = some (.own ds)) (k : PSs X sts (tS K (env.set i (.dat (.list ds))) E)) : PSs X sts (tS K env E) := pssmono k fun D σ H ⟨F0, H0, F, ok, r⟩ => by
  obtain ⟨F', _, _, ok'⟩ := ok.freeze ho
  exact ⟨F0, H0, F', ok', r⟩
theorem s_frz1 {i : Nat} (ho : env[i]? = some (.own ds)) (k : PS X st (tS K (env.set i (.dat (.list ds))) E)) : PS X st (tS K env E) := psmono k fun D σ H ⟨F0, H0, F, ok, r⟩ => by
  obtain ⟨F', _, _, ok'⟩ := ok.freeze ho
  exact ⟨F0, H0, F', ok', r⟩

/-! ### loops -/
theorem Grow.rebase {F0 H0 F1 H1 F H : Hp} (g1 : Grow F0 H0 F1 H1) (g : Grow F0 H0 F H) (e : Ex F1 F) : Grow F1 H0 F H :=
  ⟨e, g.hh, g.fh, fun a h0 h1 => g.old a (g1.ff.back h0) h1⟩
theorem Grow.unbase {F0 H0 F1 H1 F H : Hp} (g1 : Grow F0 H0 F1 H1) (g : Grow F1 H0 F H) : Grow F0 H0 F H :=
  ⟨g1.ff.trans g.ff, g.hh, g.fh, fun a h0 h1 => g.old a (g1.old a h0 h1) h1⟩
theorem Ok.rebase {F0 H0 F1 H1 F H : Hp} {σ : St} (g1 : Grow F0 H0 F1 H1) (ok : Ok K F0 H0 env σ F H) (e : Ex F1 F) : Ok K F1 H0 env σ F H := ⟨g1.rebase ok.g e, ok.dat, ok.own, ok.sep, ok.scr, ok.exc, ok.len⟩
theorem Ok.unbase {F0 H0 F1 H1 F H : Hp} {σ : St} (g1 : Grow F0 H0 F1 H1) (ok : Ok K F1 H0 env σ F H) : Ok K F0 H0 env σ F H := ⟨g1.unbase ok.g, ok.dat, ok.own, ok.sep, ok.scr, ok.exc, ok.len⟩
theorem RtOk.rebase {F0 H0 F1 H1 : Hp} {r : RS} {Q : VK} (g1 : Grow F0 H0 F1 H1) (h : RtOk K F0 H0 r Q) : RtOk K F1 H0 r Q := by
  cases r with
  | dat d => exact fun v F' H' g x => h v F' H' (g1.unbase g) x
  | own ds => exact fun p vs F' H' g a b c d => h p vs F' H' (g1.unbase g) a b c d
  | exc C d ep W => exact fun env σ v dd F' H' he ok a b => h env σ v dd F' H' he (ok.unbase g1) a b
theorem s_for {α : Type} {zs : List α} {enc : α → PyData} {g : TG} {ix : List Nat} {f : α → List Sl → List Sl} {tg iter : Expr} {body : List Stmt} (I : Nat → List Sl → Prop) (hp : PassesOwn (model X.prog X.w) X.A X.env X.xe)
    (hi : PI X tg iter (tI X.K env (zs.map enc))) (hg : PG X tg g) (hf : ∀ z ∈ zs, Asg X.K g (enc z) (f z) ix) (h0 : I 0 env)
    (hb : ∀ (i : Nat) z env', zs[i]? = some z → I i env' → PSs X body (tS X.K (f z env') ⟨I (i + 1), E.rt, E.nx, I (i + 1)⟩)) (hd : ∀ env', I zs.length env' → E.nx env')
    (hc : X.calm = true := by rfl) (hs : ∀ x, foldedSetIterable iter X.env x = pure x := by intro _; rfl) : PS X (.For tg iter body [] pos) (tS X.K env E) :=
  psmono (ps_for (tb := fun D σ H => ∃ (i : Nat) (z : α) (env' : List Sl), (zs[i]? = some z ∧ I i env') ∧ tS X.K (f z env') ⟨I (i + 1), E.rt, E.nx, I (i + 1)⟩ D σ H) hp hc hi hg ⟨fun pins s σ H D J ⟨i, z, e', h, q⟩ => (hb i z e' h.1 h.2).run pins s σ H D J q⟩ hs) fun D σ H ⟨F0, H0, F, ok, n, bk, ct, rt⟩ => by
    refine ⟨F0, H0, F, ok, fun J F1 H1 g1 gv => ⟨fun i m σ' H' => i ≤ zs.length ∧ m = zs.length - i ∧ ∃ env' F', I i env' ∧ Ok X.K F0 H0 env' σ' F' H' ∧ Ex F1 F', ⟨zs.length, Nat.zero_le _, rfl, env, F1, h0, ok.grow g1, Ex.refl _⟩, ?_⟩⟩
    have gb : Grow F0 H0 F1 H1 := ok.g.trans g1
    rintro i m σ' H' ⟨hle, rfl, env', F', hI, ok', ex⟩
    by_cases hlt : i < zs.length
    · have hz : zs[i]? = some zs[i] := List.getElem?_eq_getElem hlt
      refine .inr ⟨gv.go i F' H' (by rw [List.length_map]; exact hlt) ex ok'.g.fh, fun σ2 H2 => ∃ env2 F2, I (i + 1) env2 ∧ Ok X.K F0 H0 env2 σ2 F2 H2 ∧ Ex F1 F2, fun σ2 H2 ⟨env2, F2, q1, q2, q3⟩ => ⟨zs.length - (i + 1), by omega, hlt, rfl, env2, F2, q1, q2, q3⟩, fun x H3 hy => ?_⟩
      obtain ⟨F3, g3, x3⟩ := gv.yld i (enc zs[i]) F' H' x H3 (by rw [List.getElem?_map, hz]; rfl) ex ok'.g.fh hy
      refine hf zs[i] (List.getElem_mem hlt) F0 H0 F3 H3 env' σ' x _ (ok'.grow g3) x3 fun σ4 ok4 _ => ?_
      refine ⟨i, zs[i], env', ⟨hz, hI⟩, F1, H0, F3, ok4.rebase gb (ex.trans g3.ff), fun e2 σ2 F2 H2 h2 ok2 => ⟨e2, F2, h2, ok2.unbase gb, ok2.g.ff⟩, fun e2 σ2 F2 H2 h2 ok2 => n e2 σ2 F2 H2 h2 (ok2.unbase gb), fun e2 σ2 F2 H2 h2 ok2 => ⟨e2, F2, h2, ok2.unbase gb, ok2.g.ff⟩, fun r hr => (rt r hr).rebase gb⟩
    · have e : i = zs.length := by omega
      subst e
      exact .inl ⟨gv.stop _ F' H' (by rw [List.length_map]; exact Nat.le_refl _) ex ok'.g.fh, n env' σ' F' H' (hd env' hI) ok'⟩
/-- the state ahead of each turn, at least -/
theorem s_forE {α : Type} {zs : List α} {enc : α → PyData} {g : TG} {ix : List Nat} {f : α → List Sl → List Sl} {tg iter : Expr} {body : List Stmt} (T : Nat → List Sl) (hp : PassesOwn (model X.prog X.w) X.A X.env X.xe)
    (hi : PI X tg iter (tI X.K env (zs.map enc))) (hg : PG X tg g) (hf : ∀ z ∈ zs, Asg X.K g (enc z) (f z) ix) (hfl : ∀ z e1 e2, LeE e1 e2 → LeE (f z e1) (f z e2)) (h0 : LeE env (T 0))
    (hb : ∀ (i : Nat) z, zs[i]? = some z → PSs X body (tS X.K (f z (T i)) ⟨fun e => LeE e (T (i + 1)), E.rt, E.nx, fun e => LeE e (T (i + 1))⟩)) (hd : ∀ e, LeE e (T zs.length) → E.nx e)
    (hc : X.calm = true := by rfl) (hs : ∀ x, foldedSetIterable iter X.env x = pure x := by intro _; rfl) : PS X (.For tg iter body [] pos) (tS X.K env E) :=
  s_for (fun i e => LeE e (T i)) hp hi hg hf h0 (fun i z env' hz hI => s_le (hfl z _ _ hI) (hb i z hz)) hd hc hs
theorem s_while {body : List Stmt} {k : List Sl → Bool} (I : Nat → List Sl → Prop) (hp : PassesOwn (model X.prog X.w) X.A X.env X.xe) {n : Nat} (h0 : I n env)
    (hc : ∀ i env', I i env' → PT X c (tT X.K env' (k env')))
    (hb : ∀ (i : Nat) env', I i env' → k env' = true → PSs X body (tS X.K env' ⟨fun e => ∃ j, j < i ∧ I j e, E.rt, E.nx, fun e => ∃ j, j < i ∧ I j e⟩)) (hd : ∀ i env', I i env' → k env' = false → E.nx env') : PS X (.While c body [] pos) (tS X.K env E) :=
  psmono (ps_while (tc := fun σ H Q => ∃ (i : Nat) (env' : List Sl), I i env' ∧ tT X.K env' (k env') σ H Q) (tb := fun D σ H => ∃ (i : Nat) (env' : List Sl), (I i env' ∧ k env' = true) ∧ tS X.K env' ⟨fun e => ∃ j, j < i ∧ I j e, E.rt, E.nx, fun e => ∃ j, j < i ∧ I j e⟩ D σ H) hp
    ⟨fun pins s σ H Q J ⟨i, e', h, q⟩ => (hc i e' h).run pins s σ H Q J q⟩ ⟨fun pins s σ H D J ⟨i, e', h, q⟩ => (hb i e' h.1 h.2).run pins s σ H D J q⟩) fun D σ H ⟨F0, H0, F, ok, nx, bk, ct, rt⟩ => by
    refine ⟨fun m σ' H' => ∃ env' F', I m env' ∧ Ok X.K F0 H0 env' σ' F' H', ⟨n, env, F, h0, ok⟩, ?_⟩
    rintro m σ' H' ⟨env', F', hI, ok'⟩
    refine ⟨m, env', hI, F0, H0, F', ok', fun F1 H1 g1 => ?_⟩
    cases hk : k env' with
    | true =>
      show ∃ N : L2.St → Hp → Prop, _
      refine ⟨fun σ2 H2 => ∃ j, j < m ∧ ∃ env2 F2, I j env2 ∧ Ok X.K F0 H0 env2 σ2 F2 H2, fun σ2 H2 ⟨j, hj, q⟩ => ⟨j, hj, q⟩, m, env', ⟨hI, hk⟩, F0, H0, F1, ok'.grow g1, fun e2 σ2 F2 H2 ⟨j, hj, hI2⟩ ok2 => ⟨j, hj, e2, F2, hI2, ok2⟩, nx, fun e2 σ2 F2 H2 ⟨j, hj, hI2⟩ ok2 => ⟨j, hj, e2, F2, hI2, ok2⟩, rt⟩
    | false => exact nx env' σ' F1 H1 (hd m env' hI hk) (ok'.grow g1)
end

/-! ### defs -/
def spD (K : KF) (n : Nat) (R : List PyData → RS → Prop) : Sp := fun vs H Q _ => ∃ F ds r, Ex F H ∧ DqAll K F vs ds ∧ ds.length = n ∧ R ds r ∧ RtOk K F H r Q
def spScr (K : KF) (R : List Int → RS → Prop) : Sp := fun vs H Q _ => ∃ F a ns r, vs = [V.ref a] ∧ Ex F H ∧ SqL K F a (ns.map V.int) ∧ R ns r ∧ RtOk K F H r Q
def env0 (n : Nat) (ds : List PyData) : List Sl := ds.map .dat ++ List.replicate (n - ds.length) .no
theorem ok_start {K : KF} {F H : Hp} {vs : List V} {ds : List PyData} (N : List Str) (e : Ex F H) (h : DqAll K F vs ds) : Ok K F H (env0 N.length ds) (L2.start N vs) F H := by
  have hl := h.length
  refine ⟨⟨Ex.refl _, Ex.refl _, e, fun a h0 _ => h0⟩, fun i d he => ?_, fun i d he => ?_, fun i j d d' p he he' => ?_, fun i d he => ?_, fun i a dd d he => ?_, ?_⟩
  · unfold env0 at he
    by_cases hi : i < ds.length
    · rw [List.getElem?_append_left (by rw [List.length_map]; exact hi), List.getElem?_map] at he
      cases hd : ds[i]? with
      | none => rw [hd] at he; cases he
      | some d' =>
        rw [hd] at he
        cases he
        obtain ⟨v, h1, h2⟩ := h.get hd
        refine ⟨v, ?_, h2⟩
        unfold L2.start
        rw [List.getElem?_append_left (by rw [List.length_map]; omega), List.getElem?_map, h1]
        rfl
    · rw [List.getElem?_append_right (by rw [List.length_map]; omega), List.getElem?_replicate] at he
      split at he <;> cases he
  all_goals try (unfold env0 at he; by_cases hi : i < ds.length)
  · rw [List.getElem?_append_left (by rw [List.length_map]; exact hi), List.getElem?_map] at he
    cases hd : ds[i]? with
    | none => rw [hd] at he; cases he
    | some d' => rw [hd] at he; cases he
  · rw [List.getElem?_append_right (by rw [List.length_map]; omega), List.getElem?_replicate] at he
    split at he <;> cases he
  · rw [List.getElem?_append_left (by rw [List.length_map]; exact hi), List.getElem?_map] at he
    cases hd : ds[i]? with
    | none => rw [hd] at he; cases he
    | some d' => rw [hd] at he; cases he
  · rw [List.getElem?_append_right (by rw [List.length_map]; omega), List.getElem?_replicate] at he
    split at he <;> cases he
  · rw [List.getElem?_append_left (by rw [List.length_map]; exact hi), List.getElem?_map] at he
    cases hd : ds[i]? with
    | none => rw [hd] at he; cases he
    | some d' => rw [hd] at he; cases he
  · rw [List.getElem?_append_right (by rw [List.length_map]; omega), List.getElem?_replicate] at he
    split at he <;> cases he
  · rw [List.getElem?_append_left (by rw [List.length_map]; exact hi), List.getElem?_map] at he
    cases hd : ds[i]? with
    | none => rw [hd] at he; cases he
    | some d' => rw [hd] at he; cases he
  · rw [List.getElem?_append_right (by rw [List.length_map]; omega), List.getElem?_replicate] at he
    split at he <;> cases he
  · unfold L2.start env0
    rw [List.length_append, List.length_append, List.length_map, List.length_map, List.length_replicate, List.length_replicate, hl]
theorem ok_scr {K : KF} {F H : Hp} {a : Addr} {ns : List Int} (N : List Str) (e : Ex F H) (h : SqL K F a (ns.map V.int)) : Ok K F H (.scr ns :: List.replicate (N.length - 1) .no) (L2.start N [.ref a]) F H := by
  refine ⟨⟨Ex.refl _, Ex.refl _, e, fun a h0 _ => h0⟩, fun i d he => ?_, fun i d he => ?_, fun i j d d' p he he' => ?_, fun i d he => ?_, fun i a dd d he => ?_, ?_⟩
  · cases i with
    | zero => cases he
    | succ i =>
      rw [List.getElem?_cons_succ, List.getElem?_replicate] at he
      split at he <;> cases he
  · cases i with
    | zero => cases he
    | succ i =>
      rw [List.getElem?_cons_succ, List.getElem?_replicate] at he
      split at he <;> cases he
  · cases i with
    | zero => cases he
    | succ i =>
      rw [List.getElem?_cons_succ, List.getElem?_replicate] at he
      split at he <;> cases he
  · cases i with
    | zero => cases he; exact ⟨a, rfl, h⟩
    | succ i =>
      rw [List.getElem?_cons_succ, List.getElem?_replicate] at he
      split at he <;> cases he
  · cases i with
    | zero => cases he
    | succ i =>
      rw [List.getElem?_cons_succ, List.getElem?_replicate] at he
      split at he <;> cases he
  · unfold L2.start
    simp
section
variable {P : Program} {w : World} {K : KF} {mg : Str → Option Value} {base : Heap} {x qual : Str} {st : Stmt} {f : Addr} {fd : FuncData} {N ps : List Str} {k : Nat} {R : List PyData → RS → Prop}
abbrev Fn (K : KF) (x qual : Str) (st : Stmt) (f : Addr) (fd : FuncData) : Prop := FunD K x qual (defArgs st) (defBody st) (defScope st) [] [] f fd
abbrev cx0 (P : Program) (w : World) (K : KF) (mg : Str → Option Value) (base : Heap) (N : List Str) (qual : Str) (st : Stmt) (f : Addr) (cdv : Value) (A : Around) (outer : List Env) (s : Shared) (H : Hp) (E : XK) : Cx := (cxOf CX0 P w K mg base N qual (defScope st) f cdv A outer s H E).nox
/-- a def keeps its promise -/
theorem def_ok (F : Fn K x qual st f fd) (S : FnScope N ps (defScope st))
    (hb : ∀ (cdv : Value) (A : Around) (outer : List Env) (s : Shared) (H : Hp) (E : XK) (ds : List PyData) (r : RS), Room k (A.deeper (PyProof.Rows.envOfC qual (defScope st) s.heap.objs.size f cdv)) → ds.length = ps.length → R ds r →
      PSs (cx0 P w K mg base N qual st f cdv A outer s H E) (defBody st) (tS K (env0 N.length ds) ⟨fun _ => r = .dat .none, (· = r), fun _ => False, fun _ => False⟩)) : FnOk P w K mg base CX0 (k + 1) f fd ps (spD K ps.length R) := by
  refine FunD.ok F S (fun vs H Q E ⟨F, ds, r, e, h, hl, _⟩ => by rw [h.length, hl]) (fun cdv A outer s H vs Q E hr ⟨F, ds, r, e, h, hl, hR, hQ⟩ => ?_)
  refine ⟨_, PSs.nox (hb cdv A outer s H E ds r hr hl hR), F, H, F, ok_start N e h, fun env' σ' F' H' hr' ok' => ?_, fun _ _ _ _ z => z.elim, fun _ _ _ _ z => z.elim, fun r' hr' => ?_⟩
  · subst hr'
    exact hQ .non F' H' ok'.g .non
  · subst hr'
    exact hQ
theorem def_scr {R : List Int → RS → Prop} (F : Fn K x qual st f fd) (S : FnScope N ps (defScope st)) (hps : ps.length = 1)
    (hb : ∀ (cdv : Value) (A : Around) (outer : List Env) (s : Shared) (H : Hp) (E : XK) (ns : List Int) (r : RS), Room k (A.deeper (PyProof.Rows.envOfC qual (defScope st) s.heap.objs.size f cdv)) → R ns r →
      PSs (cx0 P w K mg base N qual st f cdv A outer s H E) (defBody st) (tS K (.scr ns :: List.replicate (N.length - 1) .no) ⟨fun _ => r = .dat .none, (· = r), fun _ => False, fun _ => False⟩)) : FnOk P w K mg base CX0 (k + 1) f fd ps (spScr K R) := by
  refine FunD.ok F S (fun vs H Q E ⟨F, a, ns, r, e, _⟩ => by rw [e, hps]; rfl) (fun cdv A outer s H vs Q E hr ⟨F, a, ns, r, ev, e, h, hR, hQ⟩ => ?_)
  subst ev
  refine ⟨_, PSs.nox (hb cdv A outer s H E ns r hr hR), F, H, F, ok_scr N e h, fun env' σ' F' H' hr' ok' => ?_, fun _ _ _ _ z => z.elim, fun _ _ _ _ z => z.elim, fun r' hr' => ?_⟩
  · subst hr'
    exact hQ .non F' H' ok'.g .non
  · subst hr'
    exact hQ
end
/-- a def that stands at its name, and its promise -/
def Def (P : Program) (w : World) (K : KF) (mg : Str → Option Value) (base : Heap) (k : Nat) (x : Str) (sp : Sp) : Prop := ∃ f fd ps, FnOk P w K mg base CX0 k f fd ps sp ∧ mg x = some (.ref f) ∧ PySem.W.keepIn K (.ref f) = true ∧ Binds K fd ps []
theorem Def.up {P : Program} {w : World} {K : KF} {mg : Str → Option Value} {base : Heap} {j k : Nat} {x : Str} {sp : Sp} (h : Def P w K mg base j x sp) (l : j ≤ k) : Def P w K mg base k x sp := by
  obtain ⟨f, fd, ps, a, b⟩ := h
  exact ⟨f, fd, ps, a.mono l, b⟩
/-- where a def of the text stands -/
structure At (K : KF) (mg : Str → Option Value) (x : Str) (st : Stmt) (ps : List Str) : Prop where
  ex : ∃ f fd, Fn K x x st f fd ∧ mg x = some (.ref f) ∧ Binds K fd ps []
theorem At.def {P : Program} {w : World} {K : KF} {mg : Str → Option Value} {base : Heap} {k : Nat} {x : Str} {st : Stmt} {ps : List Str} {sp : Sp} (a : At K mg x st ps) (h : ∀ f fd, Fn K x x st f fd → FnOk P w K mg base CX0 k f fd ps sp) : Def P w K mg base k x sp := by
  obtain ⟨f, fd, F, hm, hb⟩ := a.ex
  exact ⟨f, fd, ps, h f fd F, hm, F.kp, hb⟩
section
variable {X : Cx} {e : Expr} {es : List Expr} {m : Bool} {env : List Sl} {d : PyData} {ds rs : List PyData} {pos p : Pos} {k n : Nat} {x : Str} {R : List PyData → RS → Prop}
theorem e_call (D : Def X.prog X.w X.K X.mg X.base k x (spD X.K n R)) (hr : Room k X.A) (ha : PA X (e :: es) (tA X.K true env ds)) (hn : ds.length = n) (hR : R ds (.dat d)) (hg : Gl X x := by rfl) (hdb : (x == ("__debug__" : Str)) = false := by decide)
    (he : starEach (e :: es) X.env = (false, eval e X.env) :: starEach es X.env := by rfl) (hpl : (backTo pos (starEach es X.env)).any (·.1) = false := by rfl) : PE X (.Call (.Name x p) (e :: es) [] pos) (tE X.K m env d) := by
  obtain ⟨f, fd, ps, Fo, hm, hk, hb⟩ := D
  exact pmono (pe_call (E := E0) Fo hr hg hm hk hb .nil pass0 ha hdb he hpl) fun σ H Q ⟨F0, H0, F, ok, q⟩ => ⟨F0, H0, F, ok, fun vs F1 H1 g1 x1 => ⟨F1, ds, .dat d, g1.fh, by rw [List.append_nil]; exact x1, hn, hR, fun v F2 H2 g2 x2 => q v F2 H2 (g1.trans g2) (seldn g2.fh x2)⟩⟩
theorem o_call (D : Def X.prog X.w X.K X.mg X.base k x (spD X.K n R)) (hr : Room k X.A) (ha : PA X (e :: es) (tA X.K true env ds)) (hn : ds.length = n) (hR : R ds (.own rs)) (hg : Gl X x := by rfl) (hdb : (x == ("__debug__" : Str)) = false := by decide)
    (he : starEach (e :: es) X.env = (false, eval e X.env) :: starEach es X.env := by rfl) (hpl : (backTo pos (starEach es X.env)).any (·.1) = false := by rfl) : PE X (.Call (.Name x p) (e :: es) [] pos) (tO X.K env rs) := by
  obtain ⟨f, fd, ps, Fo, hm, hk, hb⟩ := D
  exact pmono (pe_call (E := E0) Fo hr hg hm hk hb .nil pass0 ha hdb he hpl) fun σ H Q ⟨F0, H0, F, ok, q⟩ => ⟨F0, H0, F, ok, fun vs F1 H1 g1 x1 => ⟨F1, ds, .own rs, g1.fh, by rw [List.append_nil]; exact x1, hn, hR, fun p vs2 F2 H2 g2 h1 h2 h3 h4 => q p vs2 F2 H2 (g1.trans g2) (g1.hh.back h1) h2 h3 h4⟩⟩
/-- arguments that are read alone: the answer needs no heap, or is a new list of such -/
theorem e_callH (D : Def X.prog X.w X.K X.mg X.base k x (spD X.K n R)) (hr : Room k X.A) (ha : PA X (e :: es) (tA X.K false env ds)) (hn : ds.length = n) (hR : R ds (.dat d)) (hs : scalD d = true) (hg : Gl X x := by rfl) (hdb : (x == ("__debug__" : Str)) = false := by decide)
    (he : starEach (e :: es) X.env = (false, eval e X.env) :: starEach es X.env := by rfl) (hpl : (backTo pos (starEach es X.env)).any (·.1) = false := by rfl) : PE X (.Call (.Name x p) (e :: es) [] pos) (tE X.K m env d) := by
  obtain ⟨f, fd, ps, Fo, hm, hk, hb⟩ := D
  exact pmono (pe_call (E := E0) Fo hr hg hm hk hb .nil pass0 ha hdb he hpl) fun σ H Q ⟨F0, H0, F, ok, q⟩ => ⟨F0, H0, F, ok, fun vs F1 H1 g1 x1 => ⟨H1, ds, .dat d, Ex.refl _, by rw [List.append_nil]; exact x1, hn, hR, fun v F2 H2 g2 x2 => q v F1 H2 (g1.trans (Grow.junk g1.fh g2.hh)) (x2.scal hs)⟩⟩
theorem o_callH (D : Def X.prog X.w X.K X.mg X.base k x (spD X.K n R)) (hr : Room k X.A) (ha : PA X (e :: es) (tA X.K false env ds)) (hn : ds.length = n) (hR : R ds (.own rs)) (hs : rs.all scalD = true) (hg : Gl X x := by rfl) (hdb : (x == ("__debug__" : Str)) = false := by decide)
    (he : starEach (e :: es) X.env = (false, eval e X.env) :: starEach es X.env := by rfl) (hpl : (backTo pos (starEach es X.env)).any (·.1) = false := by rfl) : PE X (.Call (.Name x p) (e :: es) [] pos) (tO X.K env rs) := by
  obtain ⟨f, fd, ps, Fo, hm, hk, hb⟩ := D
  exact pmono (pe_call (E := E0) Fo hr hg hm hk hb .nil pass0 ha hdb he hpl) fun σ H Q ⟨F0, H0, F, ok, q⟩ => ⟨F0, H0, F, ok, fun vs F1 H1 g1 x1 => ⟨H1, ds, .own rs, Ex.refl _, by rw [List.append_nil]; exact x1, hn, hR, fun p vs2 F2 H2 g2 h1 h2 h3 h4 =>
    q p vs2 F1 H2 (g1.trans (Grow.junk g1.fh g2.hh)) (g1.hh.back h1) (g1.fh.back h1) h3 (h4.scal hs)⟩⟩
/-- f(script) -/
theorem o_callScr {R : List Int → RS → Prop} {y : Str} {ns : List Int} (i : Nat) (D : Def X.prog X.w X.K X.mg X.base k x (spScr X.K R)) (hr : Room k X.A) (hN : X.N[i]? = some y) (hv : Vis X.env.scope y) (ho : env[i]? = some (.scr ns)) (hR : R ns (.own rs)) (hg : Gl X x := by rfl) (hdb : (x == ("__debug__" : Str)) = false := by decide)
    (hd : (y == ("__debug__" : Str)) = false := by decide) (hcd : (y == ("__classdict__" : Str)) = false := by decide) : PE X (.Call (.Name x p) [.Name y pos] [] pos) (tO X.K env rs) := by
  obtain ⟨f, fd, ps, Fo, hm, hk, hb⟩ := D
  exact pmono (pe_call (E := E0) Fo hr hg hm hk hb .nil pass0 (pa_cons (pe_var hN hv hd hcd) pa_nil) hdb) fun σ H Q ⟨F0, H0, F, ok, q⟩ => by
    obtain ⟨a, h1, h2⟩ := ok.scr i ns ho
    exact ⟨.ref a, h1, F, a, ns, .own rs, rfl, ok.g.fh, h2, hR, fun p vs2 F2 H2 g2 h1 h2 h3 h4 => q p vs2 F2 H2 g2 h1 h2 h3 h4⟩
end
/-! ### the law -/
def spLaw (K : KF) : Sp := spScr K fun ns r => ns.length ≤ 63 ∧ r = .dat (.bool true)
theorem law_of {K : KF} {H : Hp} {a : Addr} {ns : List Int} (hl : ns.length ≤ 63) (h : SqL K H a (ns.map V.int)) : spLaw K [.ref a] H (fun v _ => v = .bl true) fun _ _ _ => False :=
  ⟨H, a, ns, .dat (.bool true), rfl, Ex.refl _, h, ⟨hl, rfl⟩, fun v F' H' g x => by cases x; rfl⟩
end D3
namespace D3
open PySem PySem.Spec L2

/-! ### in short -/
/-- the built-ins stand -/
structure Bt (mg : Str → Option Value) : Prop where
  len : mg "len" = none
  range : mg "range" = none
  list : mg "list" = none
  int : mg "int" = none
  abs : mg "abs" = none
  max : mg "max" = none
  min : mg "min" = none
  all : mg "all" = none
  any : mg "any" = none
  isinstance : mg "isinstance" = none
  bool : mg "bool" = none
  repr : mg "repr" = none
  sum : mg "sum" = none
  sorted : mg "sorted" = none
  set : mg "set" = none
  str : mg "str" = none
  tuple : mg "tuple" = none
  enumerate : mg "enumerate" = none
  zip : mg "zip" = none
  reversed : mg "reversed" = none
section
variable {X : Cx} {K : KF} {e a b c : Expr} {es : List Expr} {m m1 m2 m3 : Bool} {env : List Sl} {d d1 d2 : PyData} {ds ds1 ds2 : List PyData} {pos p p1 p2 p3 p4 : Pos} {x : Str} {i j : Int} {E : DE} {st : Stmt} {rest : List Stmt}
abbrev dI (xs : List Int) : List PyData := xs.map .int
theorem dv (i : Nat) (he : env[i]? = some (.dat d)) (hN : X.N[i]? = some x := by rfl) (hv : Vis X.env.scope x := by first | exact .inl rfl | exact .inr (.inl rfl) | exact .inr (.inr rfl))
    (hd : (x == ("__debug__" : Str)) = false := by decide) (hcd : (x == ("__classdict__" : Str)) = false := by decide) : PE X (.Name x pos) (tE K m env d) := pe_dat i hN hv he hd hcd
theorem ov (i : Nat) (he : env[i]? = some (.own ds)) (hN : X.N[i]? = some x := by rfl) (hv : Vis X.env.scope x := by first | exact .inl rfl | exact .inr (.inl rfl) | exact .inr (.inr rfl))
    (hd : (x == ("__debug__" : Str)) = false := by decide) (hcd : (x == ("__classdict__" : Str)) = false := by decide) : PE X (.Name x pos) (tL K env ds) := pl_own i hN hv he hd hcd

/-! ### typed items -/
theorem atI_map {α : Type} {enc : α → PyData} {zs : List α} {z : α} (h : atI zs i = some z) : atI (zs.map enc) i = some (enc z) := by
  unfold atI at h ⊢
  rw [List.length_map]
  cases hx : ixN zs.length i with
  | none => rw [hx] at h; cases h
  | some q =>
    rw [hx] at h
    show (zs.map enc)[q]? = some (enc z)
    rw [List.getElem?_map, show zs[q]? = some z from h]; rfl
theorem atI_pos {α : Type} {zs : List α} {d : α} (h0 : 0 ≤ i) (h1 : i < zs.length) : atI zs i = some (zs.getD i.toNat d) := by
  obtain ⟨k, rfl⟩ := Int.eq_ofNat_of_zero_le h0
  have hk : k < zs.length := by omega
  have : zs[k]? = some zs[k] := List.getElem?_eq_getElem hk
  rw [show ((k : Int)).toNat = k from rfl, List.getD_eq_getElem?_getD, this]
  exact atI_nat this
theorem atI_neg1 {α : Type} {zs : List α} {d : α} (h1 : zs ≠ []) : atI zs (-1) = some (zs.getLastD d) := by
  have hs : zs = zs.dropLast ++ [zs.getLast h1] := (List.dropLast_concat_getLast h1).symm
  have hl : zs.getLastD d = zs.getLast h1 := by
    cases zs with
    | nil => exact absurd rfl h1
    | cons y ys => rfl
  rw [hl]
  conv => lhs; rw [hs]
  exact atI_last _ _
theorem e_ixI {xs : List Int} (h : PE X a (tL X.K env (xs.map .int))) (hb : PE X b (tE X.K true env (.int i))) (hi : 0 ≤ i ∧ i < xs.length) (hs : PlainIx b := by exact fun _ _ => rfl) : PE X (.Subscript a b pos) (tE X.K m env (.int (xs.getD i.toNat 0))) :=
  e_ix h hb (atI_map (enc := .int) (atI_pos hi.1 hi.2)) hs
theorem e_ixG {α : Type} {enc : α → PyData} {zs : List α} (z0 : α) (h : PE X a (tL X.K env (zs.map enc))) (hb : PE X b (tE X.K true env (.int i))) (hi : 0 ≤ i ∧ i < zs.length) (hs : PlainIx b := by exact fun _ _ => rfl) : PE X (.Subscript a b pos) (tE X.K m env (enc (zs.getD i.toNat z0))) :=
  e_ix h hb (atI_map (atI_pos hi.1 hi.2)) hs
theorem e_ixZ {xs : List Int} (h : PE X a (tL X.K env (xs.map .int))) (hb : PE X b (tE X.K true env (.int (-1)))) (hi : xs ≠ []) (hs : PlainIx b := by exact fun _ _ => rfl) : PE X (.Subscript a b pos) (tE X.K m env (.int (xs.getLastD 0))) :=
  e_ix h hb (atI_map (enc := .int) (atI_neg1 hi)) hs
theorem e_mul (ha : PE X a (tE K true env (.int i))) (hb : PE X b (tE K true env (.int j))) (hc : CMulW i j) : PE X (.BinOp a .Mult b pos) (tE K m env (.int (i * j))) := e_I (g := fun i j => i * j) op_mulW hc ha hb
theorem e_mulS (ha : PE X a (tE K true env (.int i))) (hb : PE X b (tE K true env (.int j))) (hc : CMul i j) : PE X (.BinOp a .Mult b pos) (tE K m env (.int (i * j))) := e_I (g := fun i j => i * j) op_mul hc ha hb
theorem e_fdivW (ha : PE X a (tE K true env (.int i))) (hb : PE X b (tE K true env (.int j))) (hc : CDivW i j) : PE X (.BinOp a .FloorDiv b pos) (tE K m env (.int (i / j))) := e_I (g := fun i j => i / j) op_fdivW hc ha hb
/-- [0] * n -/
theorem repD_one {α : Type} (z : α) (k : Int) : repD [z] k = List.replicate k.toNat z := by
  unfold repD
  induction k.toNat with
  | zero => rfl
  | succ n ih => rw [List.replicate_succ, List.flatten_cons, ih, List.replicate_succ]; rfl
theorem map_repD {α β : Type} (f : α → β) (zs : List α) (k : Int) : repD (zs.map f) k = (repD zs k).map f := by
  unfold repD
  induction k.toNat with
  | zero => rfl
  | succ n ih => rw [List.replicate_succ, List.flatten_cons, ih, List.replicate_succ, List.flatten_cons, List.map_append]
theorem map_cutD {α β : Type} (f : α → β) (zs : List α) (lo hi : Option Int) : cutD (zs.map f) lo hi = (cutD zs lo hi).map f := by
  unfold cutD
  rw [List.length_map, List.map_take, List.map_drop]
theorem cut_to {α : Type} {zs : List α} {k : Int} (h : 0 ≤ k) : cutD zs none (some k) = zs.take k.toNat := by
  obtain ⟨n, rfl⟩ := Int.eq_ofNat_of_zero_le h
  unfold cutD
  rw [HT.sIx_none, HT.sIx_nat, List.drop_zero, Nat.sub_zero, show ((n : Int)).toNat = n from rfl]
  rw [Nat.min_def]; split
  · rfl
  · rw [List.take_length, List.take_of_length_le (by omega)]
theorem cut_from {α : Type} {zs : List α} {k : Int} (h : 0 ≤ k) : cutD zs (some k) none = zs.drop k.toNat := by
  obtain ⟨n, rfl⟩ := Int.eq_ofNat_of_zero_le h
  unfold cutD
  rw [HT.sIx_none, HT.sIx_nat, show ((n : Int)).toNat = n from rfl, List.take_of_length_le (by rw [List.length_drop]; omega)]
  rw [Nat.min_def]; split
  · rfl
  · rw [List.drop_length, List.drop_eq_nil_of_le (by omega)]
theorem cut_m1 {α : Type} {zs : List α} : cutD zs none (some (-1)) = zs.dropLast := by
  have h : HT.sIx zs.length zs.length (some (-1)) = zs.length - 1 := by
    show (if (-1 : Int) < 0 then ((-1 : Int) + (zs.length : Int)).toNat else min (-1 : Int).toNat zs.length) = zs.length - 1
    rw [if_pos (by decide)]
    omega
  unfold cutD
  rw [HT.sIx_none, List.drop_zero, Nat.sub_zero, List.dropLast_eq_take, h]
/-- zs[:n] of data -/
theorem o_to {α : Type} {enc : α → PyData} {zs : List α} (h : PE X e (tL X.K env (zs.map enc))) (hb : PE X b (tE X.K true env (.int i))) (hi : 0 ≤ i) : PE X (.Subscript e (.Slice none (some b) none p2) pos) (tO X.K env ((zs.take i.toNat).map enc)) :=
  o_eq (o_sl h o_no (o_so hb)) (by rw [map_cutD, cut_to hi])
theorem o_from {α : Type} {enc : α → PyData} {zs : List α} (h : PE X e (tL X.K env (zs.map enc))) (hb : PE X b (tE X.K true env (.int i))) (hi : 0 ≤ i) : PE X (.Subscript e (.Slice (some b) none none p2) pos) (tO X.K env ((zs.drop i.toNat).map enc)) :=
  o_eq (o_sl h (o_so hb) o_no) (by rw [map_cutD, cut_from hi])
theorem o_catG {α : Type} {enc : α → PyData} {xs ys : List α} (ha : PE X a (tL X.K env (xs.map enc))) (hb : PE X b (tL X.K env (ys.map enc))) (hz : xs.length + ys.length ≤ sizeLine) : PE X (.BinOp a .Add b pos) (tO X.K env ((xs ++ ys).map enc)) :=
  o_eq (o_cat ha hb (by rw [List.length_map, List.length_map]; exact hz)) (by rw [List.map_append])
theorem o_repG {α : Type} {enc : α → PyData} {xs : List α} (ha : PE X a (tL X.K env (xs.map enc))) (hb : PE X b (tE X.K true env (.int i))) (h1 : -(2 ^ 63) ≤ i ∧ i < 2 ^ 63) (hz : xs.length * i.toNat ≤ sizeLine) : PE X (.BinOp a .Mult b pos) (tO X.K env ((repD xs i).map enc)) :=
  o_eq (o_rep ha hb h1 (by rw [List.length_map]; exact hz)) (map_repD enc xs i)
/-- [n] * k -/
theorem o_rep1 {n : Int} (ha : PE X a (tE X.K true env (.int n))) (hb : PE X b (tE X.K true env (.int i))) (h1 : i < 2 ^ 63) (h2 : -(2 ^ 63) ≤ i) (hz : i.toNat ≤ sizeLine) (na : NS X a := by exact fun _ => rfl) : PE X (.BinOp (.List [a] p1) .Mult b pos) (tO X.K env ((List.replicate i.toNat n).map .int)) :=
  o_eq (o_rep (l_o (o_list (a_cons ha a_nil (na [])) (by show 1 ≤ sizeLine; rw [sizeLine_eq]; omega))) hb ⟨h2, h1⟩ (by simpa using hz)) (by rw [repD_one, List.map_replicate])
theorem o_nil : PE X (.List [] pos) (tO X.K env []) := o_list a_nil (Nat.zero_le _)
theorem o_listI {ns : List Int} (h : PA X es (tA X.K true env (ns.map .int))) (hl : ns.length ≤ 1000) : PE X (.List es pos) (tO X.K env (ns.map .int)) := o_list h (by rw [List.length_map, sizeLine_eq]; omega)
theorem a_consI {n : Int} {ns : List Int} (ha : PE X a (tE K m env (.int n))) (hs : PA X es (tA K m env (ns.map .int))) (hst : starEach (a :: es) X.env = (false, eval a X.env) :: starEach es X.env := by rfl) : PA X (a :: es) (tA K m env ((n :: ns).map .int)) := a_cons ha hs hst
theorem a_nilI : PA X [] (tA K m env (([] : List Int).map .int)) := a_nil
theorem a_consG {α : Type} {enc : α → PyData} {z : α} {zs : List α} (ha : PE X a (tE K m env (enc z))) (hs : PA X es (tA K m env (zs.map enc))) (hst : starEach (a :: es) X.env = (false, eval a X.env) :: starEach es X.env := by rfl) : PA X (a :: es) (tA K m env ((z :: zs).map enc)) := a_cons ha hs hst
theorem a_nilG {α : Type} {enc : α → PyData} : PA X [] (tA K m env (([] : List α).map enc)) := a_nil
/-- xs[::-1] -/
theorem o_rev {k : Nat} (h : PE X e (tL X.K env ds)) : PE X (.Subscript e (.Slice none none (some (.UnaryOp .USub (.Constant (.int 1) k p1) p2)) p3) pos) (tO X.K env ds.reverse) :=
  pmono (pe_revL h) fun σ H Q ⟨F0, H0, F, ok, q⟩ => ⟨F0, H0, F, ok, fun p vs F1 H1 g1 x y => ⟨p, vs, rfl, sqOf x, fun r hr => q r _ F1 _ (g1.trans (Grow.own g1.fh hr)) (g1.hh.back hr) (g1.fh.back hr) upd_same (by
    have rev : ∀ {vs : List V} {ds : List PyData}, DqAll X.K F1 vs ds → DqAll X.K F1 vs.reverse ds.reverse := by
      intro vs ds
      induction ds generalizing vs with
      | nil => intro h; cases h; exact .nil
      | cons d ds ih =>
        intro h
        cases h with
        | cons h1 h2 =>
          rw [List.reverse_cons, List.reverse_cons]
          exact (ih h2).append (.cons h1 .nil)
    exact rev y)⟩⟩
theorem o_revG {α : Type} {enc : α → PyData} {zs : List α} {k : Nat} (h : PE X e (tL X.K env (zs.map enc))) : PE X (.Subscript e (.Slice none none (some (.UnaryOp .USub (.Constant (.int 1) k p1) p2)) p3) pos) (tO X.K env (zs.reverse.map enc)) :=
  o_eq (o_rev h) (by rw [List.map_reverse])
theorem e_isB {k l : Bool} (ha : PE X a (tE K true env (.bool k))) (hb : PE X b (tE K true env (.bool l))) : PE X (.Compare a [.Is] [b] pos) (tE K m env (.bool (decide (k = l)))) :=
  e_cmp op_isBl ha hb (nomark _) (fun x y H Q hx hy q => by cases hx; cases hy; exact ⟨k, l, rfl, rfl, q⟩) fun _ => .bl _
theorem e_isNone (ha : PE X a (tE K true env d)) {k : Nat} : PE X (.Compare a [.Is] [.Constant .none k p1] pos) (tE K m env (.bool (match d with | .none => true | _ => false))) :=
  e_cmp op_isN ha (e_non (m := true) (env := env)) (nomark _) (fun x y H Q hx hy q => by
    cases hy
    refine ⟨rfl, ?_⟩
    cases hx <;> exact q) fun _ => .bl _
theorem e_notNone (ha : PE X a (tE K true env d)) {k : Nat} : PE X (.Compare a [.IsNot] [.Constant .none k p1] pos) (tE K m env (.bool (match d with | .none => false | _ => true))) :=
  e_cmp op_notN ha (e_non (m := true) (env := env)) (nomark _) (fun x y H Q hx hy q => by
    cases hy
    refine ⟨rfl, ?_⟩
    cases hx <;> exact q) fun _ => .bl _

/-! ### isinstance -/
def tyD : PyData → String
  | .none => "NoneType" | .bool _ => "bool" | .int _ => "int" | .str _ => "str" | .list _ => "list" | .tuple _ => "tuple" | .dict _ => "dict"
theorem tyx {H : Hp} {v : V} (h : Dq K H v d) : TyX K H v (.type (tyD d)) := by
  cases h with
  | non => exact .base .non
  | bl b => exact .base (.bl b)
  | int i => exact .base (.int i)
  | str x => exact .base (.str x)
  | lst h1 _ => exact .base (.lst h1)
  | tup h1 _ =>
    rcases h1 with (h1 | ⟨o, h1⟩) | ⟨o, its, n, h1, h2, _⟩
    · exact .base (.tup h1)
    · exact .fTuple h1
    · exact .kTuple h1 h2
theorem e_isi {T : String} {r : Bool} (hm : X.mg "isinstance" = none) (ha : PE X a (tE X.K m1 env d)) (hb : PE X b (tC (.ty T))) (hr : kitB (tyD d) T = some r) (hg : Gl X "isinstance" := by rfl) (na : NS X a := by exact fun _ => rfl) (nb : NS X b := by exact fun _ => rfl) :
    PE X (.Call (.Name "isinstance" p1) [a, b] [] pos) (tE X.K m env (.bool r)) :=
  pmono (pe_callB call_isi hg hm PyProof.Rows.boot_isinstance (pa_cons ha (pa_cons hb pa_nil (nb [])) (na [b])) (he := na [b]) (hpl := by rw [nb []]; rfl)) fun σ H Q ⟨F0, H0, F, ok, k⟩ => ⟨F0, H0, F, ok, fun v F1 H1 g1 x =>
    ⟨v, .ty T, _, _, r, rfl, .ty T, tyx (seldq g1.fh x), kit_ty hr, k _ F1 H1 g1 (.bl _)⟩⟩
/-- a built-in class by its name -/
theorem ty_int (hm : X.mg "int" = none) (hg : Gl X "int" := by rfl) : PE X (.Name "int" pos) (tC (.ty "int")) := pe_bltn hg hm PyProof.Rows.boot_int rfl
theorem ty_bool (hm : X.mg "bool" = none) (hg : Gl X "bool" := by rfl) : PE X (.Name "bool" pos) (tC (.ty "bool")) := pe_bltn hg hm PyProof.Rows.boot_bool rfl
theorem ty_list (hm : X.mg "list" = none) (hg : Gl X "list" := by rfl) : PE X (.Name "list" pos) (tC (.ty "list")) := pe_bltn hg hm PyProof.Rows.boot_list rfl
theorem ty_tuple (hm : X.mg "tuple" = none) (hg : Gl X "tuple" := by rfl) : PE X (.Name "tuple" pos) (tC (.ty "tuple")) := pe_bltn hg hm PyProof.Rows.boot_tuple rfl
theorem ty_str (hm : X.mg "str" = none) (hg : Gl X "str" := by rfl) : PE X (.Name "str" pos) (tC (.ty "str")) := pe_bltn hg hm PyProof.Rows.boot_str rfl

/-! ### repr of a flat thing -/
theorem call_repr_bool : CallR X (.builtin "repr") (fun xs H Q => ∃ b, xs = [.bl b] ∧ Q (.str (if b then "True" else "False")) H) := by
  intro pins s σ H xs us Q I r h
  obtain ⟨i, rfl, q⟩ := h
  obtain ⟨u, rfl, t⟩ := vals1 r
  cases (show u = Value.bool i from t)
  exact PySem.P.repr_of_bool ⟨.str _, H, I.tok _, ⟨_, rfl⟩, q⟩
theorem e_reprB {k : Bool} (hm : X.mg "repr" = none) (h : PE X e (tE X.K true env (.bool k))) (hg : Gl X "repr" := by rfl) (ns : NS X e := by exact fun _ => rfl) : PE X (.Call (.Name "repr" p1) [e] [] pos) (tE X.K m env (.str (if k then "True" else "False"))) :=
  pmono (pe_callB call_repr_bool hg hm PyProof.Rows.boot_repr (pa_cons h pa_nil (ns [])) (he := ns [])) fun σ H Q ⟨F0, H0, F, ok, q⟩ => ⟨F0, H0, F, ok, fun v F1 H1 g1 x => by
    cases x
    exact ⟨k, rfl, q _ F1 H1 g1 (.str _)⟩⟩

/-! ### statements, again -/
theorem s_fork (h1 : PS X st (tS K env (E.to fun e => PSs X rest (tS K e E)))) : PSs X (st :: rest) (tS K env E) := s_cons h1 fun e q => q
/-- for k in range(n) -/
theorem s_forR {j : Nat} {n : Int} {body : List Stmt} {y : Str} (T : Nat → List Sl) (hp : PassesOwn (model X.prog X.w) X.A X.env X.xe) (hm : X.mg "range" = none) (ha : PE X a (tE X.K true env (.int n))) (hj : -(2 ^ 62) ≤ n ∧ n < 2 ^ 62)
    (hN : X.N.Nodup) (hi : X.N[j]? = some y) (h0 : LeE env (T 0))
    (hb : ∀ i : Nat, (i : Int) < n → PSs X body (tS X.K ((T i).set j (.dat (.int (i : Int)))) ⟨fun e => LeE e (T (i + 1)), E.rt, E.nx, fun e => LeE e (T (i + 1))⟩)) (hd : ∀ e, LeE e (T n.toNat) → E.nx e)
    (hc : X.calm = true := by rfl) (hx : Loc X.env.scope y := by first | exact .inl rfl | exact .inr rfl) (hf : X.fn y = true ∨ X.env.scope.names.lookup y = some .local := by first | exact .inl rfl | exact .inr rfl)
    (hs : ∀ x, foldedSetIterable (.Call (.Name "range" p) [a] [] p1) X.env x = pure x := by intro _; rfl) (hg : Gl X "range" := by rfl) (na : NS X a := by exact fun _ => rfl) : PS X (.For (.Name y p3) (.Call (.Name "range" p) [a] [] p1) body [] pos) (tS X.K env E) := by
  have e0 : ∀ i : Nat, (0 : Int) + (i : Int) = (i : Int) := fun i => Int.zero_add _
  refine s_for (zs := List.range n.toNat) (enc := fun (i : Nat) => PyData.int (0 + (i : Int))) (f := fun (i : Nat) e => e.set j (.dat (.int (0 + (i : Int))))) (fun i e => LeE e (T i)) hp (i_rng1 hm ha hj hg na) (pg_name hN hi hx hf) (fun z _ => asg_nameA _) h0 (fun i z env' hz hI => ?_) (by rw [List.length_range]; exact hd) hc hs
  have hi' : i < n.toNat := by simpa using (List.getElem?_eq_some_iff.mp hz).1
  have hz' : z = i := by
    rw [List.getElem?_range hi'] at hz
    exact (Option.some.inj hz).symm
  subst hz'
  have hset : ∀ (as bs : List Sl) (j : Nat) (s : Sl), LeE as bs → LeE (as.set j s) (bs.set j s) := by
    intro as
    induction as with
    | nil => intro bs j s h; cases bs with
      | nil => exact trivial
      | cons => exact h.elim
    | cons a as ih => intro bs j s h; cases bs with
      | nil => exact h.elim
      | cons b bs => cases j with
        | zero => exact ⟨.inr rfl, h.2⟩
        | succ j => exact ⟨h.1, ih bs j s h.2⟩
  show PSs X body (tS X.K (env'.set j (.dat (.int (0 + (z : Int))))) _)
  rw [e0]
  exact s_le (hset _ _ j _ hI) (hb z (by omega))
theorem LeE.set_ : ∀ {as bs : List Sl} {j : Nat} {s : Sl}, LeE as bs → LeE (as.set j s) (bs.set j s)
  | [], [], _, _, _ => trivial
  | a :: as, b :: bs, 0, s, h => ⟨.inr rfl, h.2⟩
  | a :: as, b :: bs, j + 1, s, h => ⟨h.1, LeE.set_ h.2⟩
  | [], _ :: _, _, _, h => h.elim
  | _ :: _, [], _, _, h => h.elim
/-- for x in xs -/
theorem s_forL {α : Type} {enc : α → PyData} {zs : List α} {j : Nat} {l : Expr} {body : List Stmt} {y : Str} (T : Nat → List Sl) (hp : PassesOwn (model X.prog X.w) X.A X.env X.xe) (ha : PE X l (tE X.K true env (.list (zs.map enc))))
    (hN : X.N.Nodup) (hi : X.N[j]? = some y) (h0 : LeE env (T 0))
    (hb : ∀ (i : Nat) z, zs[i]? = some z → PSs X body (tS X.K ((T i).set j (.dat (enc z))) ⟨fun e => LeE e (T (i + 1)), E.rt, E.nx, fun e => LeE e (T (i + 1))⟩)) (hd : ∀ e, LeE e (T zs.length) → E.nx e)
    (hc : X.calm = true := by rfl) (hx : Loc X.env.scope y := by first | exact .inl rfl | exact .inr rfl) (hf : X.fn y = true ∨ X.env.scope.names.lookup y = some .local := by first | exact .inl rfl | exact .inr rfl)
    (hs : ∀ x, foldedSetIterable l X.env x = pure x := by intro _; rfl) : PS X (.For (.Name y p3) l body [] pos) (tS X.K env E) :=
  s_for (zs := zs) (enc := enc) (f := fun z e => e.set j (.dat (enc z))) (fun i e => LeE e (T i)) hp (i_list ha) (pg_name hN hi hx hf) (fun z _ => asg_nameA _) h0 (fun i z env' hz hI => s_le (LeE.set_ hI) (hb i z hz)) hd hc hs
end
end D3
namespace D3
open PySem PySem.Spec L2
section
variable {X : Cx} {K : KF} {e a b c : Expr} {es : List Expr} {m m1 m2 m3 : Bool} {env : List Sl} {d d1 d2 : PyData} {ds ds1 ds2 : List PyData} {pos p p1 p2 p3 p4 : Pos} {x : Str} {i j : Int} {E : DE} {st : Stmt} {rest : List Stmt}
abbrev eL {α : Type} (f : α → PyData) (z : List α) : PyData := .list (z.map f)
abbrev eT2 {α β : Type} (f : α → PyData) (g : β → PyData) (z : α × β) : PyData := .tuple [f z.1, g z.2]
abbrev eT3 {α β γ : Type} (f : α → PyData) (g : β → PyData) (h : γ → PyData) (z : α × β × γ) : PyData := .tuple [f z.1, g z.2.1, h z.2.2]
def setAll (env : List Sl) : List (Nat × Sl) → List Sl
  | [] => env
  | p :: ps => setAll (env.set p.1 p.2) ps
theorem e_ifG {α : Type} {enc : α → PyData} {x y : α} {k : Bool} (hc : PT X c (tT K env k)) (ha : k = true → PE X a (tE K m env (enc x))) (hb : k = false → PE X b (tE K m env (enc y))) : PE X (.IfExp c a b pos) (tE K m env (enc (if k then x else y))) :=
  e_if hc (fun h => by subst h; exact ha rfl) (fun h => by subst h; exact hb rfl)
theorem i_rngN {tg : Expr} (hm : X.mg "range" = none) (ha : PE X a (tE X.K true env (.int j))) (hj : -(2 ^ 62) ≤ j ∧ j < 2 ^ 62) (hg : Gl X "range" := by rfl) (na : NS X a := by exact fun _ => rfl) : PI X tg (.Call (.Name "range" p1) [a] [] pos) (tI X.K env ((List.range j.toNat).map fun (i : Nat) => .int (i : Int))) := by
  have h := i_rng1 (tg := tg) (p1 := p1) (pos := pos) hm ha hj hg na
  have e : rangeD 0 j.toNat = (List.range j.toNat).map fun (i : Nat) => PyData.int (i : Int) := by
    unfold rangeD
    congr 1
    funext i
    rw [Int.zero_add]
  rwa [e] at h
theorem i_rngN2 {tg : Expr} (hm : X.mg "range" = none) (ha : PE X a (tE X.K true env (.int i))) (hb : PE X b (tE X.K true env (.int j))) (hj : -(2 ^ 62) ≤ i ∧ i < 2 ^ 62 ∧ -(2 ^ 62) ≤ j ∧ j < 2 ^ 62) (hg : Gl X "range" := by rfl) (na : NS X a := by exact fun _ => rfl) (nb : NS X b := by exact fun _ => rfl) :
    PI X tg (.Call (.Name "range" p1) [a, b] [] pos) (tI X.K env ((List.range (j - i).toNat).map fun (k : Nat) => .int (i + (k : Int)))) := i_rng2 hm ha hb hj hg na nb
/-- comprehensions, typed -/
theorem o_lcT {α β : Type} {zs : List α} {enc : α → PyData} {encB : β → PyData} {g : TG} {ix : List Nat} {f : α → List Sl → List Sl} {tb : α → Bool} {y : α → β} {own : List (Str × Nat)} {tg iter elt : Expr} {ifs : List Expr} {scope : Scope}
    (hN : X.N.Nodup) (hi : PI X tg iter (tI X.K env (zs.map enc))) (hl : zs.length ≤ 1000000) (okb : blkC X.N X.env.scope scope own = true) (hg : Blk X scope fun X' => PG X' tg g)
    (hf : ∀ z ∈ zs, Asg X.K g (enc z) (f z) ix) (hix : ∀ i ∈ ix, i ∈ own.map (·.2))
    (ht : ∀ z ∈ zs, Blk X scope fun X' => PTs X' ifs (tT X.K (f z (wipeE env (own.map (·.2)))) (tb z)))
    (he : ∀ z ∈ zs, tb z = true → Blk X scope fun X' => PE X' elt (tE X.K true (f z (wipeE env (own.map (·.2)))) (encB (y z))))
    (hc : X.calm = true := by rfl) (hs : ∀ x, foldedSetIterable iter X.env x = pure x := by intro _; rfl) : PE X (.ListComp elt [⟨tg, iter, ifs, 0⟩] scope pos) (tO X.K env (((zs.filter tb).map y).map encB)) := by
  have h := o_lc (pos := pos) (y := fun z => encB (y z)) hN hi hl okb hg hf hix ht he hc hs
  rwa [show (fun z => encB (y z)) = encB ∘ y from rfl, ← List.map_map] at h
theorem o_lcTA {α β : Type} {zs : List α} {enc : α → PyData} {encB : β → PyData} {g : TG} {ix : List Nat} {f : α → List Sl → List Sl} {y : α → β} {own : List (Str × Nat)} {tg iter elt : Expr} {scope : Scope}
    (hN : X.N.Nodup) (hi : PI X tg iter (tI X.K env (zs.map enc))) (hl : zs.length ≤ 1000000) (okb : blkC X.N X.env.scope scope own = true) (hg : Blk X scope fun X' => PG X' tg g)
    (hf : ∀ z ∈ zs, Asg X.K g (enc z) (f z) ix) (hix : ∀ i ∈ ix, i ∈ own.map (·.2))
    (he : ∀ z ∈ zs, Blk X scope fun X' => PE X' elt (tE X.K true (f z (wipeE env (own.map (·.2)))) (encB (y z))))
    (hc : X.calm = true := by rfl) (hs : ∀ x, foldedSetIterable iter X.env x = pure x := by intro _; rfl) : PE X (.ListComp elt [⟨tg, iter, [], 0⟩] scope pos) (tO X.K env ((zs.map y).map encB)) := by
  have h := o_lcA (pos := pos) (y := fun z => encB (y z)) hN hi hl okb hg hf hix he hc hs
  rwa [show (fun z => encB (y z)) = encB ∘ y from rfl, ← List.map_map] at h
theorem s_setLcT {α β : Type} {zs : List α} {enc : α → PyData} {encB : β → PyData} {g : TG} {ix : List Nat} {f : α → List Sl → List Sl} {tb : α → Bool} {y : α → β} {own : List (Str × Nat)} {tg iter elt : Expr} {ifs : List Expr} {scope : Scope} {x : Str} {py spos : Pos} (i : Nat)
    (hN : X.N.Nodup) (hxi : X.N[i]? = some x) (hi : PI X tg iter (tI X.K env (zs.map enc))) (hl : zs.length ≤ 1000000) (okb : blkC X.N X.env.scope scope own = true) (hg : Blk X scope fun X' => PG X' tg g)
    (hf : ∀ z ∈ zs, Asg X.K g (enc z) (f z) ix) (hix : ∀ i ∈ ix, i ∈ own.map (·.2))
    (ht : ∀ z ∈ zs, Blk X scope fun X' => PTs X' ifs (tT X.K (f z (wipeE env (own.map (·.2)))) (tb z)))
    (he : ∀ z ∈ zs, tb z = true → Blk X scope fun X' => PE X' elt (tE X.K true (f z (wipeE env (own.map (·.2)))) (encB (y z))))
    (h : E.nx (env.set i (.own (((zs.filter tb).map y).map encB)))) (hsw : swapsWith (.ListComp elt [⟨tg, iter, ifs, 0⟩] scope pos) (some (.Name x py)) spos.line X.env = pure true := by exact sw_true rfl rfl rfl (by decide +kernel)) (hyl : X.env.scope.names.lookup x = some .local := by rfl)
    (hc : X.calm = true := by rfl) (hs : ∀ x, foldedSetIterable iter X.env x = pure x := by intro _; rfl) : PS X (.Assign [.Name x py] (.ListComp elt [⟨tg, iter, ifs, 0⟩] scope pos) spos) (tS X.K env E) :=
  s_setLc (y := fun z => encB (y z)) i hN hxi hi hl okb hg hf hix ht he (by rw [show (fun z => encB (y z)) = encB ∘ y from rfl, ← List.map_map]; exact h) hsw hyl hc hs
theorem s_setLcTA {α β : Type} {zs : List α} {enc : α → PyData} {encB : β → PyData} {g : TG} {ix : List Nat} {f : α → List Sl → List Sl} {y : α → β} {own : List (Str × Nat)} {tg iter elt : Expr} {scope : Scope} {x : Str} {py spos : Pos} (i : Nat)
    (hN : X.N.Nodup) (hxi : X.N[i]? = some x) (hi : PI X tg iter (tI X.K env (zs.map enc))) (hl : zs.length ≤ 1000000) (okb : blkC X.N X.env.scope scope own = true) (hg : Blk X scope fun X' => PG X' tg g)
    (hf : ∀ z ∈ zs, Asg X.K g (enc z) (f z) ix) (hix : ∀ i ∈ ix, i ∈ own.map (·.2))
    (he : ∀ z ∈ zs, Blk X scope fun X' => PE X' elt (tE X.K true (f z (wipeE env (own.map (·.2)))) (encB (y z))))
    (h : E.nx (env.set i (.own ((zs.map y).map encB)))) (hsw : swapsWith (.ListComp elt [⟨tg, iter, [], 0⟩] scope pos) (some (.Name x py)) spos.line X.env = pure true := by exact sw_true rfl rfl rfl (by decide +kernel)) (hyl : X.env.scope.names.lookup x = some .local := by rfl)
    (hc : X.calm = true := by rfl) (hs : ∀ x, foldedSetIterable iter X.env x = pure x := by intro _; rfl) : PS X (.Assign [.Name x py] (.ListComp elt [⟨tg, iter, [], 0⟩] scope pos) spos) (tS X.K env E) :=
  s_setLcA (y := fun z => encB (y z)) i hN hxi hi hl okb hg hf hix he (by rw [show (fun z => encB (y z)) = encB ∘ y from rfl, ← List.map_map]; exact h) hsw hyl hc hs
/-- for k in range(n), then the rest: U what the turns make of the slots -/
theorem c_forR {j : Nat} {n : Int} {body : List Stmt} {y : Str} (U : Nat → List (Nat × Sl)) (hp : PassesOwn (model X.prog X.w) X.A X.env X.xe) (hm : X.mg "range" = none) (ha : PE X a (tE X.K true env (.int n))) (hj : -(2 ^ 62) ≤ n ∧ n < 2 ^ 62)
    (hN : X.N.Nodup) (hi : X.N[j]? = some y) (h0 : LeE env (setAll env (U 0)))
    (hb : ∀ i : Nat, (i : Int) < n → PSs X body (tS X.K ((setAll env (U i)).set j (.dat (.int (i : Int)))) ⟨fun e => LeE e (setAll env (U (i + 1))), E.rt, fun e => PSs X rest (tS X.K e E), fun e => LeE e (setAll env (U (i + 1)))⟩)) (hd : PSs X rest (tS X.K (setAll env (U n.toNat)) E))
    (hc : X.calm = true := by rfl) (hx : Loc X.env.scope y := by first | exact .inl rfl | exact .inr rfl) (hf : X.fn y = true ∨ X.env.scope.names.lookup y = some .local := by first | exact .inl rfl | exact .inr rfl)
    (hs : ∀ x, foldedSetIterable (.Call (.Name "range" p) [a] [] p1) X.env x = pure x := by intro _; rfl) (hg : Gl X "range" := by rfl) (na : NS X a := by exact fun _ => rfl) : PSs X (.For (.Name y p3) (.Call (.Name "range" p) [a] [] p1) body [] pos :: rest) (tS X.K env E) :=
  s_cons (M := fun e => PSs X rest (tS X.K e E)) (s_forR (E := E.to fun e => PSs X rest (tS X.K e E)) (fun i => setAll env (U i)) hp hm ha hj hN hi h0 hb (fun e he => s_le he hd) hc hx hf hs hg na) fun e q => q
/-- n a length -/
theorem c_forRN {j : Nat} {n : Nat} {body : List Stmt} {y : Str} (U : Nat → List (Nat × Sl)) (hp : PassesOwn (model X.prog X.w) X.A X.env X.xe) (hm : X.mg "range" = none) (ha : PE X a (tE X.K true env (.int (n : Int)))) (hj : n < 2 ^ 62)
    (hN : X.N.Nodup) (hi : X.N[j]? = some y) (h0 : LeE env (setAll env (U 0)))
    (hb : ∀ i : Nat, i < n → PSs X body (tS X.K ((setAll env (U i)).set j (.dat (.int (i : Int)))) ⟨fun e => LeE e (setAll env (U (i + 1))), E.rt, fun e => PSs X rest (tS X.K e E), fun e => LeE e (setAll env (U (i + 1)))⟩)) (hd : PSs X rest (tS X.K (setAll env (U n)) E))
    (hc : X.calm = true := by rfl) (hx : Loc X.env.scope y := by first | exact .inl rfl | exact .inr rfl) (hf : X.fn y = true ∨ X.env.scope.names.lookup y = some .local := by first | exact .inl rfl | exact .inr rfl)
    (hs : ∀ x, foldedSetIterable (.Call (.Name "range" p) [a] [] p1) X.env x = pure x := by intro _; rfl) (hg : Gl X "range" := by rfl) (na : NS X a := by exact fun _ => rfl) : PSs X (.For (.Name y p3) (.Call (.Name "range" p) [a] [] p1) body [] pos :: rest) (tS X.K env E) :=
  c_forR U hp hm ha ⟨by omega, by omega⟩ hN hi h0 (fun i h => hb i (by omega)) hd hc hx hf hs hg na
theorem c_forL {α : Type} {enc : α → PyData} {zs : List α} {j : Nat} {l : Expr} {body : List Stmt} {y : Str} (U : Nat → List (Nat × Sl)) (hp : PassesOwn (model X.prog X.w) X.A X.env X.xe) (ha : PE X l (tE X.K true env (.list (zs.map enc))))
    (hN : X.N.Nodup) (hi : X.N[j]? = some y) (h0 : LeE env (setAll env (U 0)))
    (hb : ∀ (i : Nat) z, zs[i]? = some z → PSs X body (tS X.K ((setAll env (U i)).set j (.dat (enc z))) ⟨fun e => LeE e (setAll env (U (i + 1))), E.rt, fun e => PSs X rest (tS X.K e E), fun e => LeE e (setAll env (U (i + 1)))⟩)) (hd : PSs X rest (tS X.K (setAll env (U zs.length)) E))
    (hc : X.calm = true := by rfl) (hx : Loc X.env.scope y := by first | exact .inl rfl | exact .inr rfl) (hf : X.fn y = true ∨ X.env.scope.names.lookup y = some .local := by first | exact .inl rfl | exact .inr rfl)
    (hs : ∀ x, foldedSetIterable l X.env x = pure x := by intro _; rfl) : PSs X (.For (.Name y p3) l body [] pos :: rest) (tS X.K env E) :=
  s_cons (M := fun e => PSs X rest (tS X.K e E)) (s_forL (E := E.to fun e => PSs X rest (tS X.K e E)) (fun i => setAll env (U i)) hp ha hN hi h0 hb (fun e he => s_le he hd) hc hx hf hs) fun e q => q
/-- while: the state as a function of the turn; c tells whether it goes on -/
theorem c_while {body : List Stmt} (U : Nat → List (Nat × Sl)) (k : Nat → Bool) (n : Nat) (hp : PassesOwn (model X.prog X.w) X.A X.env X.xe) (h0 : LeE env (setAll env (U 0))) (hk : ∀ i, i < n → k i = true) (hn : k n = false)
    (hc : ∀ i, i ≤ n → PT X c (tT X.K (setAll env (U i)) (k i)))
    (hb : ∀ i, i < n → PSs X body (tS X.K (setAll env (U i)) ⟨fun e => LeE e (setAll env (U (i + 1))), E.rt, fun e => PSs X rest (tS X.K e E), fun e => LeE e (setAll env (U (i + 1)))⟩)) (hd : PSs X rest (tS X.K (setAll env (U n)) E)) : PSs X (.While c body [] pos :: rest) (tS X.K env E) := by
  refine s_cons (M := fun e => PSs X rest (tS X.K e E)) (s_le1 h0 ?_) fun e q => q
  refine psmono (ps_while (tc := fun σ H Q => ∃ i, i ≤ n ∧ tT X.K (setAll env (U i)) (k i) σ H Q) (tb := fun D σ H => ∃ i, i < n ∧ tS X.K (setAll env (U i)) ⟨fun e => LeE e (setAll env (U (i + 1))), E.rt, fun e => PSs X rest (tS X.K e E), fun e => LeE e (setAll env (U (i + 1)))⟩ D σ H) hp
    ⟨fun pins s σ H Q J ⟨i, h, q⟩ => (hc i h).run pins s σ H Q J q⟩ ⟨fun pins s σ H D J ⟨i, h, q⟩ => (hb i h).run pins s σ H D J q⟩) fun D σ H ⟨F0, H0, F, ok, nx, bk, ct, rt⟩ => ?_
  refine ⟨fun m σ' H' => ∃ i F', i ≤ n ∧ m = n - i ∧ Ok X.K F0 H0 (setAll env (U i)) σ' F' H', ⟨n, 0, F, Nat.zero_le _, rfl, ok⟩, ?_⟩
  rintro m σ' H' ⟨i, F', hi, rfl, ok'⟩
  refine ⟨i, hi, F0, H0, F', ok', fun F1 H1 g1 => ?_⟩
  by_cases hlt : i < n
  · rw [hk i hlt]
    show ∃ N : L2.St → Hp → Prop, _
    refine ⟨fun σ2 H2 => ∃ F2, Ok X.K F0 H0 (setAll env (U (i + 1))) σ2 F2 H2, fun σ2 H2 ⟨F2, q⟩ => ⟨n - (i + 1), by omega, i + 1, F2, hlt, rfl, q⟩, i, hlt, F0, H0, F1, ok'.grow g1, fun e2 σ2 F2 H2 h2 ok2 => ⟨F2, ok2.le h2⟩, fun e2 σ2 F2 H2 h2 ok2 => nx e2 σ2 F2 H2 h2 ok2, fun e2 σ2 F2 H2 h2 ok2 => ⟨F2, ok2.le h2⟩, rt⟩
  · have e : i = n := by omega
    subst e
    rw [hn]
    exact nx _ σ' F1 H1 hd (ok'.grow g1)
end
end D3
namespace D3
open PySem PySem.Spec L2
section
variable {X : Cx} {K : KF} {e a b c : Expr} {es : List Expr} {m m1 m2 m3 : Bool} {env : List Sl} {d d1 d2 : PyData} {ds ds1 ds2 : List PyData} {pos p p1 p2 p3 p4 : Pos} {x y : Str} {i j : Int} {E : DE} {st : Stmt} {rest : List Stmt} {ns : List Int}
theorem e_lenScrD (i : Nat) (hm : X.mg "len" = none) (he : env[i]? = some (.scr ns)) (hN : X.N[i]? = some x := by rfl) (hv : Vis X.env.scope x := by first | exact .inl rfl | exact .inr (.inl rfl) | exact .inr (.inr rfl)) (hd : (x == ("__debug__" : Str)) = false := by decide) (hcd : (x == ("__classdict__" : Str)) = false := by decide) (hg : Gl X "len" := by rfl) :
    PE X (.Call (.Name "len" p1) [.Name x p2] [] pos) (tE X.K m env (.int (ns.length : Int))) := e_lenScr i hm he hN hv hd hcd hg
theorem e_ixScrD (i : Nat) (he : env[i]? = some (.scr ns)) (hb : PE X b (tE X.K true env (.int j))) (hj : 0 ≤ j ∧ j < ns.length) (hN : X.N[i]? = some x := by rfl) (hv : Vis X.env.scope x := by first | exact .inl rfl | exact .inr (.inl rfl) | exact .inr (.inr rfl)) (hs : PlainIx b := by exact fun _ _ => rfl)
    (hd : (x == ("__debug__" : Str)) = false := by decide) (hcd : (x == ("__classdict__" : Str)) = false := by decide) : PE X (.Subscript (.Name x p1) b pos) (tE X.K m env (.int (ns.getD j.toNat 0))) :=
  e_ixScr he hN hv hb (atI_pos hj.1 hj.2) hs hd hcd
theorem s_setIxD {j : Int} (i : Nat) (ho : env[i]? = some (.own ds)) (he : PE X e (tE X.K true env d)) (hb : PE X b (tE X.K true env (.int j))) (hj : 0 ≤ j ∧ j < ds.length) (h : E.nx (env.set i (.own (ds.set j.toNat d)))) (hi : X.N[i]? = some x := by rfl) (hv : Vis X.env.scope x := by first | exact .inl rfl | exact .inr (.inl rfl) | exact .inr (.inr rfl))
    (hd : (x == ("__debug__" : Str)) = false := by decide) (hcd : (x == ("__classdict__" : Str)) = false := by decide)
    (ha : ∀ v, assign (.Subscript (.Name x p1) b p2) X.env v = (do
      let ov ← holding [v] (eval (.Name x p1) X.env)
      let iv ← holding [v, ov] (eval b X.env)
      standAt p2
      holding [v, ov, iv] (setItem ov iv v)
      release [v, ov, iv] []) := by intro _; rfl)
    (hs : swapsWithSole [.Subscript (.Name x p1) b p2] e pos.line X.env = pure false := by rfl) (hw : swappedStores [.Subscript (.Name x p1) b p2] e X.env = pure none := by rfl) : PS X (.Assign [.Subscript (.Name x p1) b p2] e pos) (tS X.K env E) :=
  s_setIx (k := j) (j := j.toNat) i hi hv ho he hb (by unfold ixN; rw [if_pos hj.1, if_pos hj.2]) h hd hcd (fun {t} ht => pg_sub (pe_var hi hv hd hcd) hb ht ha) hs hw
/-- the items of an own list as plain ones -/
theorem setMap {α : Type} {enc : α → PyData} {zs : List α} {n : Nat} {z : α} : (zs.map enc).set n (enc z) = (zs.set n z).map enc := by rw [List.map_set]
theorem o_callScrD {k : Nat} {R : List Int → RS → Prop} {rs : List PyData} (i : Nat) (D : Def X.prog X.w X.K X.mg X.base k x (spScr X.K R)) (hr : Room k X.A) (ho : env[i]? = some (.scr ns)) (hR : R ns (.own rs)) (hN : X.N[i]? = some y := by rfl) (hv : Vis X.env.scope y := by first | exact .inl rfl | exact .inr (.inl rfl) | exact .inr (.inr rfl)) (hg : Gl X x := by rfl) (hdb : (x == ("__debug__" : Str)) = false := by decide)
    (hd : (y == ("__debug__" : Str)) = false := by decide) (hcd : (y == ("__classdict__" : Str)) = false := by decide) : PE X (.Call (.Name x p) [.Name y pos] [] pos) (tO X.K env rs) := o_callScr i D hr hN hv ho hR hg hdb hd hcd
theorem o_callScrD' {k : Nat} {R : List Int → RS → Prop} {rs : List PyData} (i : Nat) (D : Def X.prog X.w X.K X.mg X.base k x (spScr X.K R)) (hr : Room k X.A) (ho : env[i]? = some (.scr ns)) (hR : R ns (.own rs)) (hN : X.N[i]? = some y := by rfl) (hv : Vis X.env.scope y := by first | exact .inl rfl | exact .inr (.inl rfl) | exact .inr (.inr rfl)) (hg : Gl X x := by rfl) (hdb : (x == ("__debug__" : Str)) = false := by decide)
    (hd : (y == ("__debug__" : Str)) = false := by decide) (hcd : (y == ("__classdict__" : Str)) = false := by decide) : PE X (.Call (.Name x p) [.Name y p2] [] pos) (tO X.K env rs) := by
  obtain ⟨f, fd, ps, Fo, hm, hk, hb⟩ := D
  exact pmono (pe_call (E := E0) Fo hr hg hm hk hb .nil pass0 (pa_cons (pe_var hN hv hd hcd) pa_nil) hdb) fun σ H Q ⟨F0, H0, F, ok, q⟩ => by
    obtain ⟨a, h1, h2⟩ := ok.scr i ns ho
    exact ⟨.ref a, h1, F, a, ns, .own rs, rfl, ok.g.fh, h2, hR, fun p vs2 F2 H2 g2 h1 h2 h3 h4 => q p vs2 F2 H2 g2 h1 h2 h3 h4⟩
theorem e_allD {bs : List Bool} (hm : X.mg "all" = none) (h : PE X e (tL X.K env (bs.map .bool))) (hg : Gl X "all" := by rfl) (hc : X.calm = true := by rfl) (ns : NS X e := by exact fun _ => rfl) : PE X (.Call (.Name "all" p1) [e] [] pos) (tE X.K m env (.bool (bs.all id))) := e_all hm h hg (by decide +kernel) (cr_all hc) ns
theorem e_anyD {bs : List Bool} (hm : X.mg "any" = none) (h : PE X e (tL X.K env (bs.map .bool))) (hg : Gl X "any" := by rfl) (hc : X.calm = true := by rfl) (ns : NS X e := by exact fun _ => rfl) : PE X (.Call (.Name "any" p1) [e] [] pos) (tE X.K m env (.bool (bs.any id))) := e_any hm h hg (by decide +kernel) (cr_any hc) ns
theorem o_init {α : Type} {enc : α → PyData} {zs : List α} {k : Nat} (h : PE X e (tL X.K env (zs.map enc))) : PE X (.Subscript e (.Slice none (some (.UnaryOp .USub (.Constant (.int 1) k p1) p2)) none p3) pos) (tO X.K env (zs.dropLast.map enc)) :=
  o_eq (o_sl h o_no (o_so (e_neg e_int))) (by rw [map_cutD]; congr 1; exact cut_m1)
theorem e_lenG {α : Type} {enc : α → PyData} {zs : List α} (hm : X.mg "len" = none) (h : PE X e (tL X.K env (zs.map enc))) (hg : Gl X "len" := by rfl) (ns : NS X e := by exact fun _ => rfl) : PE X (.Call (.Name "len" p1) [e] [] pos) (tE X.K m env (.int (zs.length : Int))) :=
  e_eq (e_len hm h hg ns) (by rw [List.length_map])
/-! ### comparisons, as values and as tests -/
theorem cmpE {op : CmpOp} {r : R2} {k : Bool} (ho : OpR X (compareOp op) r) (ha : PE X a (tE K m1 env d1)) (hb : PE X b (tE K m2 env d2)) (hm : behindInMarks op b = false)
    (hr : ∀ x y H Q, Dq K H x d1 → Dq K H y d2 → Q (.bl k) H → r x y H Q) : (PE X (.Compare a [op] [b] pos) (tE K m env (.bool k))) ∧ PT X (.Compare a [op] [b] pos) (tT K env k) :=
  ⟨e_cmp ho ha hb hm hr fun _ => .bl _, ptmono (pt_cmpR ho ha hb hm) fun σ H Q ⟨F0, H0, F, ok, q⟩ => ⟨F0, H0, F, ok, fun x F1 H1 g1 x1 => ⟨F0, H0, F1, ok.grow g1, fun y F2 H2 g2 y2 =>
    hr x y H2 (fun z H' => ∃ k, z = .bl k ∧ Q k H') (seldq g2.fh (selup g2 x1)) (seldq g2.fh y2) ⟨k, rfl, q F2 H2 (g1.trans g2)⟩⟩⟩⟩
section
variable {i j : Int}
theorem cI {op : CmpOp} {g : Int → Int → Bool} (ho : OpR X (compareOp op) (rI0 fun i j => .bl (g i j))) (ha : PE X a (tE K true env (.int i))) (hb : PE X b (tE K true env (.int j))) (hm : behindInMarks op b = false) : (PE X (.Compare a [op] [b] pos) (tE K m env (.bool (g i j)))) ∧ PT X (.Compare a [op] [b] pos) (tT K env (g i j)) :=
  cmpE ho ha hb hm fun x y H Q hx hy q => by cases hx; cases hy; exact ⟨i, j, rfl, rfl, q⟩
theorem c_lt (ha : PE X a (tE K true env (.int i))) (hb : PE X b (tE K true env (.int j))) : (PE X (.Compare a [.Lt] [b] pos) (tE K m env (.bool (decide (i < j))))) ∧ PT X (.Compare a [.Lt] [b] pos) (tT K env (decide (i < j))) := cI (g := fun i j => decide (i < j)) op_lt ha hb (nomark _)
theorem c_le (ha : PE X a (tE K true env (.int i))) (hb : PE X b (tE K true env (.int j))) : (PE X (.Compare a [.LtE] [b] pos) (tE K m env (.bool (decide (i ≤ j))))) ∧ PT X (.Compare a [.LtE] [b] pos) (tT K env (decide (i ≤ j))) := cI (g := fun i j => decide (i ≤ j)) op_le ha hb (nomark _)
theorem c_gt (ha : PE X a (tE K true env (.int i))) (hb : PE X b (tE K true env (.int j))) : (PE X (.Compare a [.Gt] [b] pos) (tE K m env (.bool (decide (j < i))))) ∧ PT X (.Compare a [.Gt] [b] pos) (tT K env (decide (j < i))) := cI (g := fun i j => decide (j < i)) op_gt ha hb (nomark _)
theorem c_ge (ha : PE X a (tE K true env (.int i))) (hb : PE X b (tE K true env (.int j))) : (PE X (.Compare a [.GtE] [b] pos) (tE K m env (.bool (decide (j ≤ i))))) ∧ PT X (.Compare a [.GtE] [b] pos) (tT K env (decide (j ≤ i))) := cI (g := fun i j => decide (j ≤ i)) op_ge ha hb (nomark _)
theorem c_eqI (ha : PE X a (tE K true env (.int i))) (hb : PE X b (tE K true env (.int j))) : (PE X (.Compare a [.Eq] [b] pos) (tE K m env (.bool (decide (i = j))))) ∧ PT X (.Compare a [.Eq] [b] pos) (tT K env (decide (i = j))) :=
  cmpE op_eq ha hb (nomark _) fun x y H Q hx hy q => by
    cases hx; cases hy
    refine ⟨rfl, ?_⟩
    have : decide (V.int i = V.int j) = decide (i = j) := by simp
    rw [this]; exact q
theorem c_neI (ha : PE X a (tE K true env (.int i))) (hb : PE X b (tE K true env (.int j))) : (PE X (.Compare a [.NotEq] [b] pos) (tE K m env (.bool (!decide (i = j))))) ∧ PT X (.Compare a [.NotEq] [b] pos) (tT K env (!decide (i = j))) :=
  cmpE op_ne ha hb (nomark _) fun x y H Q hx hy q => by
    cases hx; cases hy
    refine ⟨rfl, ?_⟩
    have : decide (V.int i = V.int j) = decide (i = j) := by simp
    rw [this]; exact q
end
theorem c_eqD (hu : X.A.units + 64 < cLine) (ha : PE X a (tE X.K m1 env d1)) (hb : PE X b (tE X.K m2 env d2)) (s1 : SeqAt.shaped d1 = true) (s2 : SeqAt.shaped d2 = true) : (PE X (.Compare a [.Eq] [b] pos) (tE X.K m env (.bool (PyData.eqv d1 d2)))) ∧ PT X (.Compare a [.Eq] [b] pos) (tT X.K env (PyData.eqv d1 d2)) :=
  cmpE (op_eqD hu) ha hb (nomark _) fun x y H Q hx hy q => ⟨d1, d2, Dq.dp _ _ hx, Dq.dp _ _ hy, s1, s2, q⟩
theorem c_neD (hu : X.A.units + 64 < cLine) (ha : PE X a (tE X.K m1 env d1)) (hb : PE X b (tE X.K m2 env d2)) (s1 : SeqAt.shaped d1 = true) (s2 : SeqAt.shaped d2 = true) : (PE X (.Compare a [.NotEq] [b] pos) (tE X.K m env (.bool (!PyData.eqv d1 d2)))) ∧ PT X (.Compare a [.NotEq] [b] pos) (tT X.K env (!PyData.eqv d1 d2)) :=
  cmpE (op_neD hu) ha hb (nomark _) fun x y H Q hx hy q => ⟨d1, d2, Dq.dp _ _ hx, Dq.dp _ _ hy, s1, s2, q⟩
theorem c_isB {k l : Bool} (ha : PE X a (tE K true env (.bool k))) (hb : PE X b (tE K true env (.bool l))) : (PE X (.Compare a [.Is] [b] pos) (tE K m env (.bool (decide (k = l))))) ∧ PT X (.Compare a [.Is] [b] pos) (tT K env (decide (k = l))) :=
  cmpE op_isBl ha hb (nomark _) fun x y H Q hx hy q => by cases hx; cases hy; exact ⟨k, l, rfl, rfl, q⟩
theorem c_notB {k l : Bool} (ha : PE X a (tE K true env (.bool k))) (hb : PE X b (tE K true env (.bool l))) : (PE X (.Compare a [.IsNot] [b] pos) (tE K m env (.bool (!decide (k = l))))) ∧ PT X (.Compare a [.IsNot] [b] pos) (tT K env (!decide (k = l))) :=
  cmpE op_notBl ha hb (nomark _) fun x y H Q hx hy q => by cases hx; cases hy; exact ⟨k, l, rfl, rfl, q⟩
def noneB : PyData → Bool | .none => true | _ => false
theorem c_isNone (ha : PE X a (tE K true env d)) {k : Nat} : (PE X (.Compare a [.Is] [.Constant .none k p1] pos) (tE K m env (.bool (noneB d)))) ∧ PT X (.Compare a [.Is] [.Constant .none k p1] pos) (tT K env (noneB d)) :=
  cmpE op_isN ha (e_non (m := true) (env := env)) (nomark _) fun x y H Q hx hy q => by
    cases hy
    refine ⟨rfl, ?_⟩
    cases hx <;> exact q
theorem c_notNone (ha : PE X a (tE K true env d)) {k : Nat} : (PE X (.Compare a [.IsNot] [.Constant .none k p1] pos) (tE K m env (.bool (!noneB d)))) ∧ PT X (.Compare a [.IsNot] [.Constant .none k p1] pos) (tT K env (!noneB d)) :=
  cmpE op_notN ha (e_non (m := true) (env := env)) (nomark _) fun x y H Q hx hy q => by
    cases hy
    refine ⟨rfl, ?_⟩
    cases hx <;> exact q
/-- zs * int(t) -/
theorem o_repB {α : Type} {enc : α → PyData} {zs : List α} {t : Bool} (ha : PE X a (tL X.K env (zs.map enc))) (hb : PE X b (tE X.K true env (.int (if t then 1 else 0)))) (hz : zs.length ≤ sizeLine) : PE X (.BinOp a .Mult b pos) (tO X.K env ((if t then zs else []).map enc)) := by
  have h := o_repG (pos := pos) ha hb (by cases t <;> decide) (by cases t <;> simp <;> omega)
  have e : repD zs (if t then 1 else 0) = (if t then zs else []) := by
    cases t with
    | false => rfl
    | true => show [zs].flatten = zs; simp
  rwa [e] at h
/-- a constant of the module -/
theorem e_globI {i : Int} (h : ∃ t, X.mg x = some (.int i t)) (hg : Gl X x := by rfl) (hd : (x == ("__debug__" : Str)) = false := by decide) : PE X (.Name x pos) (tE K m env (.int i)) := by
  obtain ⟨t, h⟩ := h
  exact e_const (pe_glob (v := .int i) hg h ⟨t, rfl⟩ hd) fun _ => .int i
theorem e_globS {z : Str} (h : ∃ t, X.mg x = some (.str z t)) (hg : Gl X x := by rfl) (hd : (x == ("__debug__" : Str)) = false := by decide) : PE X (.Name x pos) (tE K m env (.str z)) := by
  obtain ⟨t, h⟩ := h
  exact e_const (pe_glob (v := .str z) hg h ⟨t, rfl⟩ hd) fun _ => .str z
theorem e_addS {s t : Str} (hz : s.length + t.length ≤ sizeLine) (ha : PE X a (tE K true env (.str s))) (hb : PE X b (tE K true env (.str t))) : PE X (.BinOp a .Add b pos) (tE K m env (.str (s ++ t))) :=
  e_bin op_add_str ha hb (fun x y H Q hx hy q => by cases hx; cases hy; exact ⟨s, t, rfl, rfl, hz, q⟩) fun _ => .str _
theorem isi_int_int : kitB "int" "int" = some true := by decide +kernel
theorem isi_int_bool : kitB "int" "bool" = some false := by decide +kernel
theorem isi_int_str : kitB "int" "str" = some false := by decide +kernel
theorem isi_int_list : kitB "int" "list" = some false := by decide +kernel
theorem isi_int_tuple : kitB "int" "tuple" = some false := by decide +kernel
theorem isi_bool_int : kitB "bool" "int" = some true := by decide +kernel
theorem isi_bool_bool : kitB "bool" "bool" = some true := by decide +kernel
theorem isi_bool_str : kitB "bool" "str" = some false := by decide +kernel
theorem isi_bool_list : kitB "bool" "list" = some false := by decide +kernel
theorem isi_bool_tuple : kitB "bool" "tuple" = some false := by decide +kernel
theorem isi_str_int : kitB "str" "int" = some false := by decide +kernel
theorem isi_str_bool : kitB "str" "bool" = some false := by decide +kernel
theorem isi_str_str : kitB "str" "str" = some true := by decide +kernel
theorem isi_str_list : kitB "str" "list" = some false := by decide +kernel
theorem isi_str_tuple : kitB "str" "tuple" = some false := by decide +kernel
theorem isi_NoneType_int : kitB "NoneType" "int" = some false := by decide +kernel
theorem isi_NoneType_bool : kitB "NoneType" "bool" = some false := by decide +kernel
theorem isi_NoneType_str : kitB "NoneType" "str" = some false := by decide +kernel
theorem isi_NoneType_list : kitB "NoneType" "list" = some false := by decide +kernel
theorem isi_NoneType_tuple : kitB "NoneType" "tuple" = some false := by decide +kernel
theorem isi_list_int : kitB "list" "int" = some false := by decide +kernel
theorem isi_list_bool : kitB "list" "bool" = some false := by decide +kernel
theorem isi_list_str : kitB "list" "str" = some false := by decide +kernel
theorem isi_list_list : kitB "list" "list" = some true := by decide +kernel
theorem isi_list_tuple : kitB "list" "tuple" = some false := by decide +kernel
theorem isi_tuple_int : kitB "tuple" "int" = some false := by decide +kernel
theorem isi_tuple_bool : kitB "tuple" "bool" = some false := by decide +kernel
theorem isi_tuple_str : kitB "tuple" "str" = some false := by decide +kernel
theorem isi_tuple_list : kitB "tuple" "list" = some false := by decide +kernel
theorem isi_tuple_tuple : kitB "tuple" "tuple" = some true := by decide +kernel
/-! ### loops as functions -/
def iter {α : Type} (f : Nat → α → α) (s : α) : Nat → α
  | 0 => s
  | n + 1 => f n (iter f s n)
theorem iter_succ {α : Type} (f : Nat → α → α) (s : α) (n : Nat) : iter f s (n + 1) = f n (iter f s n) := rfl
theorem iter_ind {α : Type} {f : Nat → α → α} {s : α} (P : Nat → α → Prop) (h0 : P 0 s) : ∀ n : Nat, (∀ i x, i < n → P i x → P (i + 1) (f i x)) → P n (iter f s n)
  | 0, _ => h0
  | n + 1, h => h n _ (Nat.lt_succ_self n) (iter_ind P h0 n fun i x hi => h i x (Nat.lt_succ_of_lt hi))
def itl {α β : Type} (f : α → β → α) (s : α) (zs : List β) (i : Nat) : α := (zs.take i).foldl f s
theorem itl_zero {α β : Type} (f : α → β → α) (s : α) (zs : List β) : itl f s zs 0 = s := rfl
theorem itl_succ {α β : Type} {f : α → β → α} {s : α} {zs : List β} {i : Nat} {z : β} (h : zs[i]? = some z) : itl f s zs (i + 1) = f (itl f s zs i) z := by
  unfold itl
  rw [List.take_add_one, h, List.foldl_append]
  rfl
theorem itl_all {α β : Type} (f : α → β → α) (s : α) (zs : List β) : itl f s zs zs.length = zs.foldl f s := by
  unfold itl
  rw [List.take_length]
theorem own_rep {m n : Nat} (h : m = n) : Sl.own ((List.replicate m (0 : Int)).map PyData.int) = Sl.own ((List.replicate n 0).map .int) := by rw [h]
theorem dat_int {i j : Int} (h : i = j) : Sl.dat (.int i) = Sl.dat (.int j) := by rw [h]
/-! ### sizes of ints -/
def Sm (n : Nat) (x : Int) : Prop := x.natAbs < 2 ^ n
theorem Sm.mul {a b : Nat} {x y : Int} (hx : Sm a x) (hy : Sm b y) : Sm (a + b) (x * y) := by
  unfold Sm at *
  rw [Int.natAbs_mul, Nat.pow_add]
  exact Nat.mul_lt_mul'' hx hy
theorem Sm.up {a b : Nat} {x : Int} (hx : Sm a x) (h : a ≤ b) : Sm b x := Nat.lt_of_lt_of_le hx (Nat.pow_le_pow_right (by decide) h)
theorem Sm.add {a : Nat} {x y : Int} (hx : Sm a x) (hy : Sm a y) : Sm (a + 1) (x + y) := by
  unfold Sm at *
  have h := Int.natAbs_add_le x y
  rw [Nat.pow_succ]
  omega
theorem Sm.neg {a : Nat} {x : Int} (hx : Sm a x) : Sm a (-x) := by
  unfold Sm at *
  rw [Int.natAbs_neg]; exact hx
theorem Sm.of {n : Nat} {x : Int} {b : Int} (h : -b < x ∧ x < b) (hb : b ≤ 2 ^ n) : Sm n x := by
  unfold Sm
  have : (x.natAbs : Int) < ((2 ^ n : Nat) : Int) := by
    rw [Int.natCast_pow]
    show (x.natAbs : Int) < (2 : Int) ^ n
    omega
  exact Int.ofNat_lt.mp this
theorem Sm.mulW {a b : Nat} {x y : Int} (hx : Sm a x) (hy : Sm b y) (h : a + b < 999990) : CMulW x y :=
  wide_mul (a := a + 1) (b := b + 1) (hx.up (Nat.le_succ _)) (hy.up (Nat.le_succ _)) (by omega) (by omega) (by omega)
/-! ### equality of data, typed -/
theorem eqv_ints : ∀ (xs ys : List Int), PyData.eqvAll (xs.map .int) (ys.map .int) = decide (xs = ys)
  | [], [] => by simp [PyData.eqvAll]
  | x :: xs, [] => by simp [PyData.eqvAll]
  | [], y :: ys => by simp [PyData.eqvAll]
  | x :: xs, y :: ys => by
    rw [List.map_cons, List.map_cons, PyData.eqvAll, eqv_ints xs ys, PyData.eqv]
    by_cases h : x = y
    · subst h; simp
    · simp [h]
end
theorem lay_ints : ∀ (xs : List Int), PyData.canLayAll0 (xs.map .int) = true ∧ PyData.depthAll (xs.map .int) ≤ 1
  | [] => by simp [PyData.canLayAll0, PyData.depthAll]
  | x :: xs => by
    have ih := lay_ints xs
    simp only [List.map_cons, PyData.canLayAll0, PyData.depthAll, PyData.canLay0, PyData.depth, ih.1, Bool.and_self, true_and]
    omega
theorem shaped_ints (xs : List Int) : SeqAt.shaped (.list (xs.map .int)) = true := by
  have h := lay_ints xs
  unfold SeqAt.shaped
  rw [Bool.and_eq_true]
  refine ⟨by simp only [PyData.canLay0]; exact h.1, decide_eq_true ?_⟩
  simp only [PyData.depth]
  omega
end D3
namespace D3
open PySem PySem.Spec L2

/-! ### equality, shape of typed data -/
structure EqOk {α : Type} [DecidableEq α] (enc : α → PyData) : Prop where
  eq : ∀ x y : α, PyData.eqv (enc x) (enc y) = decide (x = y)
theorem eqI : EqOk PyData.int := ⟨fun x y => by rw [PyData.eqv]; rfl⟩
theorem eqB : EqOk PyData.bool := ⟨fun x y => by rw [PyData.eqv]; cases x <;> cases y <;> rfl⟩
theorem eqS : EqOk PyData.str := ⟨fun x y => by rw [PyData.eqv]; exact Bool.beq_eq_decide_eq x y⟩
theorem eqv_all {α : Type} [DecidableEq α] {enc : α → PyData} (h : EqOk enc) : ∀ (xs ys : List α), PyData.eqvAll (xs.map enc) (ys.map enc) = decide (xs = ys)
  | [], [] => by simp [PyData.eqvAll]
  | x :: xs, [] => by simp [PyData.eqvAll]
  | [], y :: ys => by simp [PyData.eqvAll]
  | x :: xs, y :: ys => by
    rw [List.map_cons, List.map_cons, PyData.eqvAll, eqv_all h xs ys, h.eq]
    by_cases e : x = y
    · subst e; simp
    · simp [e]
theorem eqL {α : Type} [DecidableEq α] {enc : α → PyData} (h : EqOk enc) : EqOk (eL enc) := ⟨fun x y => by
  show PyData.eqv (.list (x.map enc)) (.list (y.map enc)) = _
  rw [PyData.eqv]; exact eqv_all h x y⟩
theorem eqT2 {α β : Type} [DecidableEq α] [DecidableEq β] {f : α → PyData} {g : β → PyData} (h1 : EqOk f) (h2 : EqOk g) : EqOk (eT2 f g) := ⟨fun x y => by
  show PyData.eqv (.tuple [f x.1, g x.2]) (.tuple [f y.1, g y.2]) = _
  obtain ⟨a, b⟩ := x
  obtain ⟨c, d⟩ := y
  simp only [PyData.eqv, PyData.eqvAll, h1.eq, h2.eq, Bool.and_true]
  by_cases e : a = c <;> by_cases e2 : b = d <;> simp [e, e2]⟩
theorem eqT3 {α β γ : Type} [DecidableEq α] [DecidableEq β] [DecidableEq γ] {f : α → PyData} {g : β → PyData} {h : γ → PyData} (h1 : EqOk f) (h2 : EqOk g) (h3 : EqOk h) : EqOk (eT3 f g h) := ⟨fun x y => by
  show PyData.eqv (.tuple [f x.1, g x.2.1, h x.2.2]) (.tuple [f y.1, g y.2.1, h y.2.2]) = _
  obtain ⟨a, b, u⟩ := x
  obtain ⟨c, d, v⟩ := y
  simp only [PyData.eqv, PyData.eqvAll, h1.eq, h2.eq, h3.eq, Bool.and_true]
  by_cases e : a = c <;> by_cases e2 : b = d <;> by_cases e3 : u = v <;> simp [e, e2, e3]⟩
structure ShOk {α : Type} (enc : α → PyData) (n : Nat) : Prop where
  sh : ∀ x : α, (enc x).canLay0 = true ∧ (enc x).depth ≤ n
theorem shI : ShOk PyData.int 0 := ⟨fun x => by simp [PyData.canLay0, PyData.depth]⟩
theorem shB : ShOk PyData.bool 0 := ⟨fun x => by simp [PyData.canLay0, PyData.depth]⟩
theorem lay_all {α : Type} {enc : α → PyData} {n : Nat} (h : ShOk enc n) : ∀ (xs : List α), PyData.canLayAll0 (xs.map enc) = true ∧ PyData.depthAll (xs.map enc) ≤ n
  | [] => by simp [PyData.canLayAll0, PyData.depthAll]
  | x :: xs => by
    have ih := lay_all h xs
    have hx := h.sh x
    simp only [List.map_cons, PyData.canLayAll0, PyData.depthAll, hx.1, ih.1, Bool.and_self, true_and]
    omega
theorem shL {α : Type} {enc : α → PyData} {n : Nat} (h : ShOk enc n) : ShOk (eL enc) (n + 1) := ⟨fun x => by
  have := lay_all h x
  simp only [eL, PyData.canLay0, PyData.depth]
  exact ⟨this.1, by omega⟩⟩
theorem shT2 {α β : Type} {f : α → PyData} {g : β → PyData} {n m : Nat} (h1 : ShOk f n) (h2 : ShOk g m) : ShOk (eT2 f g) (max n m + 1) := ⟨fun x => by
  have a := h1.sh x.1
  have b := h2.sh x.2
  simp only [eT2, PyData.canLay0, PyData.depth, PyData.canLayAll0, PyData.depthAll, a.1, b.1, Bool.and_self, true_and]
  omega⟩
theorem shT3 {α β γ : Type} {f : α → PyData} {g : β → PyData} {h : γ → PyData} {n m k : Nat} (h1 : ShOk f n) (h2 : ShOk g m) (h3 : ShOk h k) : ShOk (eT3 f g h) (max n (max m k) + 1) := ⟨fun x => by
  have a := h1.sh x.1
  have b := h2.sh x.2.1
  have c := h3.sh x.2.2
  simp only [eT3, PyData.canLay0, PyData.depth, PyData.canLayAll0, PyData.depthAll, a.1, b.1, c.1, Bool.and_self, true_and]
  omega⟩
theorem ShOk.shaped {α : Type} {enc : α → PyData} {n : Nat} (h : ShOk enc n) (hn : n ≤ 64) (x : α) : SeqAt.shaped (enc x) = true := by
  unfold SeqAt.shaped
  rw [Bool.and_eq_true]
  exact ⟨(h.sh x).1, decide_eq_true (Nat.le_trans (h.sh x).2 hn)⟩

section
variable {X : Cx} {K : KF} {e a b c : Expr} {es : List Expr} {m m1 m2 m3 : Bool} {env : List Sl} {d d1 d2 : PyData} {ds ds1 ds2 : List PyData} {pos p p1 p2 p3 p4 : Pos} {x y : Str} {i j : Int} {E : DE} {st : Stmt} {rest : List Stmt} {ns : List Int}
theorem c_eqG {α : Type} [DecidableEq α] {enc : α → PyData} {u v : α} {n : Nat} (q : EqOk enc) (s : ShOk enc n) (hn : n ≤ 64) (hu : X.A.units + 64 < cLine) (ha : PE X a (tE X.K m1 env (enc u))) (hb : PE X b (tE X.K m2 env (enc v))) : (PE X (.Compare a [.Eq] [b] pos) (tE X.K m env (.bool (decide (u = v))))) ∧ PT X (.Compare a [.Eq] [b] pos) (tT X.K env (decide (u = v))) := by
  have h := c_eqD (pos := pos) (m := m) hu ha hb (s.shaped hn _) (s.shaped hn _)
  rwa [q.eq] at h
theorem c_neG {α : Type} [DecidableEq α] {enc : α → PyData} {u v : α} {n : Nat} (q : EqOk enc) (s : ShOk enc n) (hn : n ≤ 64) (hu : X.A.units + 64 < cLine) (ha : PE X a (tE X.K m1 env (enc u))) (hb : PE X b (tE X.K m2 env (enc v))) : (PE X (.Compare a [.NotEq] [b] pos) (tE X.K m env (.bool (!decide (u = v))))) ∧ PT X (.Compare a [.NotEq] [b] pos) (tT X.K env (!decide (u = v))) := by
  have h := c_neD (pos := pos) (m := m) hu ha hb (s.shaped hn _) (s.shaped hn _)
  rwa [q.eq] at h
/-- texts -/
theorem c_eqS {u v : Str} (ha : PE X a (tE K m1 env (.str u))) (hb : PE X b (tE K m2 env (.str v))) : (PE X (.Compare a [.Eq] [b] pos) (tE K m env (.bool (decide (u = v))))) ∧ PT X (.Compare a [.Eq] [b] pos) (tT K env (decide (u = v))) :=
  cmpE op_eq ha hb (nomark _) fun x y H Q hx hy q => by
    cases hx; cases hy
    refine ⟨rfl, ?_⟩
    have : decide (V.str u = V.str v) = decide (u = v) := by simp
    rw [this]; exact q
theorem c_neS {u v : Str} (ha : PE X a (tE K m1 env (.str u))) (hb : PE X b (tE K m2 env (.str v))) : (PE X (.Compare a [.NotEq] [b] pos) (tE K m env (.bool (!decide (u = v))))) ∧ PT X (.Compare a [.NotEq] [b] pos) (tT K env (!decide (u = v))) :=
  cmpE op_ne ha hb (nomark _) fun x y H Q hx hy q => by
    cases hx; cases hy
    refine ⟨rfl, ?_⟩
    have : decide (V.str u = V.str v) = decide (u = v) := by simp
    rw [this]; exact q
theorem o_nilG {α : Type} {enc : α → PyData} : PE X (.List [] pos) (tO X.K env (([] : List α).map enc)) := o_nil
theorem e_tup2 {α β : Type} {f : α → PyData} {g : β → PyData} {u : α} {v : β} {x1} (ha : PE X a (tE X.K true env (f u))) (hb : PE X b (tE X.K true env (g v))) (na : NS X a := by exact fun _ => rfl) (nb : NS X b := by exact fun _ => rfl) : PE X (.Tuple [a, b] x1 pos) (tE X.K m env (eT2 f g (u, v))) :=
  e_tup (a_cons ha (a_cons hb a_nil (nb [])) (na [b])) (by show 2 ≤ sizeLine; rw [sizeLine_eq]; omega)
theorem e_tup3 {α β γ : Type} {f : α → PyData} {g : β → PyData} {h : γ → PyData} {u : α} {v : β} {w : γ} {x1} (ha : PE X a (tE X.K true env (f u))) (hb : PE X b (tE X.K true env (g v))) (hc : PE X c (tE X.K true env (h w))) (na : NS X a := by exact fun _ => rfl) (nb : NS X b := by exact fun _ => rfl) (nc : NS X c := by exact fun _ => rfl) : PE X (.Tuple [a, b, c] x1 pos) (tE X.K m env (eT3 f g h (u, v, w))) :=
  e_tup (a_cons ha (a_cons hb (a_cons hc a_nil (nc [])) (nb [c])) (na [b, c])) (by show 3 ≤ sizeLine; rw [sizeLine_eq]; omega)

/-! ### new lists in a new list, thrown away after their change -/
structure OwnAll (K : KF) (H F' H' : Hp) (vs : List V) (dss : List (List PyData)) : Prop where
  len : vs.length = dss.length
  at_ : ∀ (i : Nat) (ds : List PyData), dss[i]? = some ds → ∃ p ws, vs[i]? = some (.ref p) ∧ H p = none ∧ F' p = none ∧ H' p = some (.lst ws) ∧ DqAll K F' ws ds
def tAO (K : KF) (env : List Sl) (dss : List (List PyData)) : TA := fun σ H Q => ∃ F0 H0 F, Ok K F0 H0 env σ F H ∧ ∀ vs F' H', Grow F H F' H' → OwnAll K H F' H' vs dss → Q vs H'
theorem ao_nil : PA X [] (tAO K env []) := pamono pa_nil fun σ H Q ⟨F0, H0, F, ok, q⟩ => q [] F H (Grow.refl ok.g.fh) ⟨rfl, fun i ds h => by simp at h⟩
theorem ao_cons {dss : List (List PyData)} (ha : PE X a (tO K env ds)) (hs : PA X es (tAO K env dss)) (hst : starEach (a :: es) X.env = (false, eval a X.env) :: starEach es X.env := by rfl) : PA X (a :: es) (tAO K env (ds :: dss)) :=
  pamono (pa_cons ha hs hst) fun σ H Q ⟨F0, H0, F, ok, q⟩ => ⟨F0, H0, F, ok, fun p ws F1 H1 g1 h1 h2 h3 h4 => ⟨F0, H0, F1, ok.grow g1, fun vs F2 H2 g2 o => q (.ref p :: vs) F2 H2 (g1.trans g2) ⟨by simp [o.len], fun i es hi => by
    cases i with
    | zero =>
      simp at hi; subst hi
      exact ⟨p, ws, rfl, h1, g2.old p h2 (by rw [h3]; simp), g2.hh _ _ h3, h4.up g2.ff⟩
    | succ i =>
      obtain ⟨r, us, a1, a2, a3, a4, a5⟩ := o.at_ i es (by simpa using hi)
      exact ⟨r, us, by simpa using a1, g1.hh.back a2, a3, a4, a5⟩⟩⟩⟩
theorem ao_consG {α : Type} {enc : α → PyData} {z : List α} {zs : List (List α)} (ha : PE X a (tO K env (z.map enc))) (hs : PA X es (tAO K env (zs.map (·.map enc)))) (hst : starEach (a :: es) X.env = (false, eval a X.env) :: starEach es X.env := by rfl) : PA X (a :: es) (tAO K env ((z :: zs).map (·.map enc))) := ao_cons ha hs hst
theorem ao_nilG {α : Type} {enc : α → PyData} : PA X [] (tAO K env (([] : List (List α)).map (·.map enc))) := ao_nil
/-- an object that is no data and in no slot changes -/
theorem Ok.junk {F0 H0 F H : Hp} {σ : St} {p : Addr} {o : HO} (ok : Ok K F0 H0 env σ F H) (hf : F p = none) (h0 : H0 p = none) (hn : ∀ (j : Nat) (es : List PyData), env[j]? = some (.own es) → σ[j]? ≠ some (some (.ref p))) (hx : ∀ fs, H p ≠ some (.xd fs)) : Ok K F0 H0 env σ F (upd H p o) :=
  ⟨ok.g.put h0 hf, ok.dat, fun j es he => by
    obtain ⟨q, vs, a1, a2, a3, a4, a5⟩ := ok.own j es he
    have hne : q ≠ p := fun z => by subst z; exact hn j es he a1
    exact ⟨q, vs, a1, a2, a3, by rw [upd_ne hne]; exact a4, a5⟩, ok.sep, ok.scr, fun j a2 dd2 e he => by
    obtain ⟨v, b1, b2, b3⟩ := ok.exc j a2 dd2 e he
    exact ⟨v, b1, by rw [upd_ne (fun z => hx _ (by rw [← z]; exact b2))]; exact b2, b3⟩, ok.len⟩
theorem Ex.froze {F H : Hp} (e : Ex F H) : ∀ (ps : List Addr), (∀ p ∈ ps, F p = none) → (∀ p ∈ ps, ∃ o, H p = some o) → ∃ F', Ex F F' ∧ Ex F' H ∧ (∀ p ∈ ps, F' p = H p) ∧ ∀ a, F' a ≠ none → F a ≠ none ∨ a ∈ ps
  | [], _, _ => ⟨F, Ex.refl _, e, (fun p h => by cases h), fun a h => .inl h⟩
  | p :: ps, hf, hh => by
    obtain ⟨F', a, b, c, d⟩ := Ex.froze e ps (fun q hq => hf q (List.mem_cons_of_mem _ hq)) (fun q hq => hh q (List.mem_cons_of_mem _ hq))
    obtain ⟨o, ho⟩ := hh p (List.mem_cons_self ..)
    by_cases hp : F' p = none
    · refine ⟨upd F' p o, a.trans (Ex.new hp), b.at_ ho, fun q hq => ?_, fun r hr => ?_⟩
      · by_cases e1 : q = p
        · subst e1; rw [upd_same, ho]
        · rw [upd_ne e1]
          exact c q ((List.mem_cons.mp hq).resolve_left e1)
      · by_cases e1 : r = p
        · subst e1; exact .inr (List.mem_cons_self ..)
        · rw [upd_ne e1] at hr
          exact (d r hr).imp id (List.mem_cons_of_mem _)
    · have hp' : F' p = H p := by
        cases h1 : F' p with
        | none => exact absurd h1 hp
        | some u => rw [b p u h1]
      refine ⟨F', a, b, fun q hq => ?_, fun r hr => (d r hr).imp id (List.mem_cons_of_mem _)⟩
      rcases List.mem_cons.mp hq with rfl | hq
      · exact hp'
      · exact c q hq
theorem c_junk {i j : Nat} {dss : List (List PyData)} {test : Expr} {body : List Stmt} {told each : Str} {z : Const} {zn : Nat} {pt pe pl ps pif pf pit pa pc pz px : Pos} {zv : V} (hN : X.N.Nodup) (hp : PassesOwn (model X.prog X.w) X.A X.env X.xe) (hi : X.N[i]? = some told) (hj : X.N[j]? = some each) (hij : i ≠ j) (hil : i < env.length) (hjl : j < env.length)
    (ha : PA X es (tAO X.K env dss)) (hl : dss.length ≤ 1000 ∧ ∀ ds ∈ dss, ds.length ≤ 1000000)
    (ht : PT X test (tT X.K (env.set i (.dat (.list (dss.map .list)))) false)) (hz : PE X (.Constant z zn pz) (tC zv)) (hr : PSs X rest (tS X.K ((env.set i .no).set j .no) E))
    (hs1 : swapsWith (.List es pl) (some (.Name told pt)) ps.line X.env = pure false := by rfl)
    (hx1 : Loc X.env.scope told := by first | exact .inl rfl | exact .inr rfl) (hf1 : X.fn told = true ∨ X.env.scope.names.lookup told = some .local := by first | exact .inl rfl | exact .inr rfl)
    (hx2 : Loc X.env.scope each := by first | exact .inl rfl | exact .inr rfl) (hf2 : X.fn each = true ∨ X.env.scope.names.lookup each = some .local := by first | exact .inl rfl | exact .inr rfl)
    (hv1 : Vis X.env.scope told := by first | exact .inl rfl | exact .inr (.inl rfl) | exact .inr (.inr rfl)) (hv2 : Vis X.env.scope each := by first | exact .inl rfl | exact .inr (.inl rfl) | exact .inr (.inr rfl))
    (hd1 : (told == ("__debug__" : Str)) = false := by decide) (hcd1 : (told == ("__classdict__" : Str)) = false := by decide) (hd2 : (each == ("__debug__" : Str)) = false := by decide) (hcd2 : (each == ("__classdict__" : Str)) = false := by decide)
    (hc : X.calm = true := by rfl) (hs2 : ∀ x, foldedSetIterable (.Name told pit) X.env x = pure x := by intro _; rfl)
    (hbase : attributeBase (.Name each pe) "append" X.env (eval (.Name each pe) X.env) = eval (.Name each pe) X.env := by rfl) (hline : (pa.endLine == pc.line) = true := by rfl)
    (hs3 : swapsWith (.Call (.Attribute (.Name each pe) "append" pa) [.Constant z zn pz] [] pc) none px.line X.env = pure false := by rfl) :
    PSs X (.Assign [.Name told pt] (.List es pl) ps :: .If test body [] pif :: .For (.Name each p1) (.Name told pit) [.Expr (.Call (.Attribute (.Name each pe) "append" pa) [.Constant z zn pz] [] pc) px] [] pf :: rest) (tS X.K env E) := by
  have never : ∀ {sts : List Stmt}, PSs X sts (fun _ _ _ => False) := fun {sts} => ⟨fun _ _ _ _ _ _ h => h.elim⟩
  refine pssmono (pss_cons (ps_set hN hi hx1 (pe_lst ha) hs1 hf1) (pss_cons (ps_if ht never pss_nil) (pss_cons (ps_for hp hc (pi_list (pe_var hi hv1 hd1 hcd1)) (pg_name hN hj hx2 hf2)
    (pss_one (ps_expr (pe_bm (hline := hline) (hbase := hbase) PySem.F.plainAttrs_list PySem.F.slot_list_append PySem.F.type_list_append mt_append (pe_var hj hv2 hd2 hcd2) (pa_cons hz pa_nil)) hs3)) hs2) hr))) fun D σ H ⟨F0, H0, F, ok, ends⟩ => ?_
  refine ⟨F0, H0, F, ok, fun vs F1 H1 g1 o => ⟨?_, fun t ht1 => ?_⟩⟩
  · have := o.len
    have h3 : sizeLine = 16777216 := sizeLine_eq
    omega
  · -- the state behind the store
    have ok1 := ok.grow g1
    have ext : Ex H1 (upd H1 t (.lst vs)) := Ex.new ht1
    have ok2 : Ok X.K F0 H0 (env.set i .no) (σ.set i (some (.ref t))) F1 (upd H1 t (.lst vs)) := (ok1.grow (Grow.own g1.fh ht1)).setNo
    -- all of it frozen for the test
    have ownp : ∀ (k : Nat) (p : Addr), vs[k]? = some (.ref p) → H p = none ∧ F1 p = none ∧ ∃ ws, H1 p = some (.lst ws) ∧ ws.length ≤ 1000000 := fun k p hk => by
      have hlt : k < dss.length := by rw [← o.len]; exact (List.getElem?_eq_some_iff.mp hk).1
      obtain ⟨q, ws, a1, a2, a3, a4, a5⟩ := o.at_ k dss[k] (List.getElem?_eq_getElem hlt)
      rw [a1] at hk
      cases hk
      exact ⟨a2, a3, ws, a4, by rw [a5.length]; exact hl.2 _ (List.getElem_mem hlt)⟩
    have allref : ∀ (k : Nat) (v : V), vs[k]? = some v → ∃ p, v = .ref p := fun k v hk => by
      have hlt : k < dss.length := by rw [← o.len]; exact (List.getElem?_eq_some_iff.mp hk).1
      obtain ⟨q, ws, a1, _⟩ := o.at_ k dss[k] (List.getElem?_eq_getElem hlt)
      rw [a1] at hk; cases hk
      exact ⟨q, rfl⟩
    let ps : List Addr := t :: vs.filterMap fun v => match v with | .ref p => some p | _ => none
    have mem_ps : ∀ p, p ∈ ps ↔ p = t ∨ ∃ k : Nat, vs[k]? = some (.ref p) := fun p => by
      show p ∈ t :: _ ↔ _
      rw [List.mem_cons, List.mem_filterMap]
      constructor
      · rintro (h | ⟨v, hv, hq⟩)
        · exact .inl h
        · obtain ⟨k, hk⟩ := List.getElem?_of_mem hv
          obtain ⟨q, rfl⟩ := allref k v hk
          cases hq
          exact .inr ⟨k, hk⟩
      · rintro (h | ⟨k, hk⟩)
        · exact .inl h
        · exact .inr ⟨_, List.mem_of_getElem? hk, rfl⟩
    have f1t : F1 t = none := g1.fh.back ht1
    have tne : ∀ (k : Nat) (p : Addr), vs[k]? = some (.ref p) → p ≠ t := fun k p hk z => by
      obtain ⟨_, _, ws, h, _⟩ := ownp k p hk
      rw [z, ht1] at h; cases h
    obtain ⟨F2, x1, x2, x3, x4⟩ := Ex.froze (F := F1) (H := upd H1 t (.lst vs)) (g1.fh.trans ext) ps (fun p hp => by
        rcases (mem_ps p).mp hp with rfl | ⟨k, hk⟩
        · exact f1t
        · exact (ownp k p hk).2.1) (fun p hp => by
        rcases (mem_ps p).mp hp with rfl | ⟨k, hk⟩
        · exact ⟨_, upd_same⟩
        · obtain ⟨_, _, ws, h, _⟩ := ownp k p hk
          exact ⟨_, ext _ _ h⟩)
    have hpsH : ∀ p ∈ ps, H p = none := fun p hp => by
      rcases (mem_ps p).mp hp with rfl | ⟨k, hk⟩
      · exact g1.hh.back ht1
      · exact (ownp k p hk).1
    have g2 : Grow F H F2 (upd H1 t (.lst vs)) := ⟨g1.ff.trans x1, g1.hh.trans ext, x2, fun a h0 h1 => by
      cases h2 : F2 a with
      | none => rfl
      | some u =>
        rcases x4 a (by rw [h2]; simp) with h3 | h3
        · exact absurd (g1.old a h0 h1) h3
        · exact absurd (hpsH a h3) h1⟩
    have okT : Ok X.K F0 H0 (env.set i (.dat (.list (dss.map .list)))) (σ.set i (some (.ref t))) F2 (upd H1 t (.lst vs)) := by
      refine (ok.grow g2).setDat (.lst (by rw [x3 t ((mem_ps t).mpr (.inl rfl)), upd_same]) ?_)
      have build : ∀ (vs : List V) (dss : List (List PyData)), vs.length = dss.length → (∀ (k : Nat) ds, dss[k]? = some ds → ∃ p ws, vs[k]? = some (.ref p) ∧ F2 p = some (.lst ws) ∧ DqAll X.K F2 ws ds) → DqAll X.K F2 vs (dss.map .list) := by
        intro vs
        induction vs with
        | nil => intro dss hl _; cases dss with
          | nil => exact .nil
          | cons => cases hl
        | cons v vs ih => intro dss hl h; cases dss with
          | nil => cases hl
          | cons ds dss =>
            obtain ⟨p, ws, a1, a2, a3⟩ := h 0 ds rfl
            cases a1
            exact .cons (.lst a2 a3) (ih dss (by simpa using hl) fun k ds hk => by
              obtain ⟨p, ws, a1, a2⟩ := h (k + 1) ds (by simpa using hk)
              exact ⟨p, ws, by simpa using a1, a2⟩)
      refine build vs dss o.len fun k ds hk => ?_
      obtain ⟨p, ws, a1, a2, a3, a4, a5⟩ := o.at_ k ds hk
      exact ⟨p, ws, a1, by rw [x3 p ((mem_ps p).mpr (.inr ⟨k, a1⟩))]; exact ext _ _ a4, a5.up x1⟩
    refine ⟨F0, H0, F2, okT, fun F3 H3 g3 => ?_⟩
    -- behind the test: back to F1
    have h3t : H3 t = some (.lst vs) := g3.hh _ _ upd_same
    have ok3 : Ok X.K F0 H0 (env.set i .no) (σ.set i (some (.ref t))) F1 H3 := ok2.grow (Grow.junk ok2.g.fh g3.hh)
    have hiσ : i < σ.length := by rw [ok.len]; exact hil
    · have σi : (σ.set i (some (V.ref t)))[i]? = some (some (.ref t)) := List.getElem?_set_self hiσ
      refine ⟨.ref t, σi, t, rfl, ⟨vs, sqOf h3t⟩, ?_⟩
      have noown : ∀ p ∈ ps, ∀ (σ' : St), (∀ k, k ≠ i → k ≠ j → σ'[k]? = σ[k]?) → ∀ (k : Nat) (es : List PyData), ((env.set i Sl.no).set j Sl.no)[k]? = some (.own es) → σ'[k]? ≠ some (some (.ref p)) := fun p hp σ' hσ k es hk z => by
        rcases get_set_cases hk with ⟨_, _, q⟩ | ⟨ne, q⟩
        · cases q
        · rcases get_set_cases q with ⟨_, _, q⟩ | ⟨ne2, q⟩
          · cases q
          · rw [hσ k (Ne.symm ne2) (Ne.symm ne)] at z
            obtain ⟨p', ws, b1, b2, b3, b4, b5⟩ := ok.own k es q
            rw [z] at b1; cases b1
            rw [hpsH p hp] at b4; cases b4
      refine for_list (xs := vs) (fun n σ' H' => Ok X.K F0 H0 ((env.set i .no).set j .no) σ' F1 H' ∧ H' t = some (.lst vs) ∧ (∀ k, k ≠ j → σ'[k]? = (σ.set i (some (V.ref t)))[k]?) ∧ ∀ (k : Nat) (p : Addr), vs[k]? = some (.ref p) → ∃ ws, H' p = some (.lst ws) ∧ ws.length ≤ 1000000 + n)
        ⟨ok3.forget j, h3t, fun _ _ => rfl, fun k p hk => by
          obtain ⟨_, _, ws, h, hw⟩ := ownp k p hk
          exact ⟨ws, g3.hh _ _ (ext _ _ h), hw⟩⟩ (fun n σ' H' _ q => sqOf q.2.1) (fun n v σ' H' hv ⟨q1, q2, q3, q4⟩ => ?_) (fun σ' H' ⟨q1, _⟩ => ⟨F0, H0, F1, q1, ends⟩)
      obtain ⟨p, rfl⟩ := allref n v hv
      obtain ⟨ws, w1, w2⟩ := q4 n p hv
      have hnl : n < 1000 := by
        have := (List.getElem?_eq_some_iff.mp hv).1
        have := o.len
        omega
      have hjσ : j < σ'.length := by rw [q1.len]; simpa using hjl
      · have okn : Ok X.K F0 H0 ((env.set i .no).set j .no) (σ'.set j (some (.ref p))) F1 H' := by
          have := q1.setNo (i := j) (x := some (V.ref p))
          rwa [List.set_set] at this
        refine ⟨.ref p, List.getElem?_set_self hjσ, .inl ⟨rfl, _, .inl (.inl w1)⟩, p, ws, zv, rfl, rfl, w1, ?_, ?_⟩
        · have h3 : sizeLine = 16777216 := sizeLine_eq
          omega
        · refine ⟨okn.junk (ownp n p hv).2.1 (ok.g.hh.back (ownp n p hv).1) (noown p ((mem_ps p).mpr (.inr ⟨n, hv⟩)) _ fun k h1 h2 => ?_) (fun fs z => by rw [w1] at z; cases z), ?_, fun k hk => ?_, fun k q hq => ?_⟩
          · rw [List.getElem?_set_ne (Ne.symm h2), q3 k h2, List.getElem?_set_ne (Ne.symm h1)]
          · rw [upd_ne (Ne.symm (tne n p hv))]; exact q2
          · rw [List.getElem?_set_ne (Ne.symm hk)]; exact q3 k hk
          · by_cases e1 : q = p
            · subst e1
              exact ⟨_, upd_same, by rw [List.length_append]; simp; omega⟩
            · obtain ⟨ws', w1', w2'⟩ := q4 k q hq
              exact ⟨ws', by rw [upd_ne e1]; exact w1', by omega⟩
theorem c_junkG {α : Type} {enc : α → PyData} {zss : List (List α)} {i j : Nat} {test : Expr} {body : List Stmt} {told each : Str} {z : Const} {zn : Nat} {pt pe pl ps pif pf pit pa pc pz px : Pos} {zv : V} (hN : X.N.Nodup) (hp : PassesOwn (model X.prog X.w) X.A X.env X.xe) (hi : X.N[i]? = some told) (hj : X.N[j]? = some each) (hij : i ≠ j) (hil : i < env.length) (hjl : j < env.length)
    (ha : PA X es (tAO X.K env (zss.map (·.map enc)))) (hl : zss.length ≤ 1000 ∧ ∀ ds ∈ zss, ds.length ≤ 1000000)
    (ht : PT X test (tT X.K (env.set i (.dat (eL (eL enc) zss))) false)) (hz : PE X (.Constant z zn pz) (tC zv)) (hr : PSs X rest (tS X.K ((env.set i .no).set j .no) E))
    (hs1 : swapsWith (.List es pl) (some (.Name told pt)) ps.line X.env = pure false := by rfl)
    (hx1 : Loc X.env.scope told := by first | exact .inl rfl | exact .inr rfl) (hf1 : X.fn told = true ∨ X.env.scope.names.lookup told = some .local := by first | exact .inl rfl | exact .inr rfl)
    (hx2 : Loc X.env.scope each := by first | exact .inl rfl | exact .inr rfl) (hf2 : X.fn each = true ∨ X.env.scope.names.lookup each = some .local := by first | exact .inl rfl | exact .inr rfl)
    (hv1 : Vis X.env.scope told := by first | exact .inl rfl | exact .inr (.inl rfl) | exact .inr (.inr rfl)) (hv2 : Vis X.env.scope each := by first | exact .inl rfl | exact .inr (.inl rfl) | exact .inr (.inr rfl))
    (hd1 : (told == ("__debug__" : Str)) = false := by decide) (hcd1 : (told == ("__classdict__" : Str)) = false := by decide) (hd2 : (each == ("__debug__" : Str)) = false := by decide) (hcd2 : (each == ("__classdict__" : Str)) = false := by decide)
    (hc : X.calm = true := by rfl) (hs2 : ∀ x, foldedSetIterable (.Name told pit) X.env x = pure x := by intro _; rfl)
    (hbase : attributeBase (.Name each pe) "append" X.env (eval (.Name each pe) X.env) = eval (.Name each pe) X.env := by rfl) (hline : (pa.endLine == pc.line) = true := by rfl)
    (hs3 : swapsWith (.Call (.Attribute (.Name each pe) "append" pa) [.Constant z zn pz] [] pc) none px.line X.env = pure false := by rfl) :
    PSs X (.Assign [.Name told pt] (.List es pl) ps :: .If test body [] pif :: .For (.Name each p1) (.Name told pit) [.Expr (.Call (.Attribute (.Name each pe) "append" pa) [.Constant z zn pz] [] pc) px] [] pf :: rest) (tS X.K env E) := 
  c_junk hN hp hi hj hij hil hjl ha ⟨by rw [List.length_map]; exact hl.1, fun ds hd => by
    obtain ⟨z, hz, rfl⟩ := List.mem_map.mp hd
    rw [List.length_map]; exact hl.2 z hz⟩ (by rw [List.map_map]; exact ht) hz hr hs1 hx1 hf1 hx2 hf2 hv1 hv2 hd1 hcd1 hd2 hcd2 hc hs2 hbase hline hs3
/-- if test: .. (never), then the rest -/
theorem c_ifF {k : Bool} {t1 : List Stmt} (hc : PT X c (tT K env k)) (hk : k = false) (h : PSs X rest (tS K env E)) : PSs X (.If c t1 [] pos :: rest) (tS K env E) :=
  s_then (s_if hc (fun z => by rw [hk] at z; cases z) (fun _ => s_nil rfl)) h
/-- the state, written otherwise -/
theorem s_env {env' : List Sl} {sts : List Stmt} (h : env = env') (k : PSs X sts (tS K env' E)) : PSs X sts (tS K env E) := h ▸ k
/-- a slot's value, forgotten but for what is known of it -/
theorem s_abs {α : Type} {enc : α → PyData} {z : α} {sts : List Stmt} (i : Nat) (he : env[i]? = some (.dat (enc z))) (P : α → Prop) (hz : P z) (h : ∀ z, P z → PSs X sts (tS K (env.set i (.dat (enc z))) E)) : PSs X sts (tS K env E) := by
  have e : env.set i (.dat (enc z)) = env := by
    obtain ⟨h1, h2⟩ := List.getElem?_eq_some_iff.mp he
    rw [← h2, List.set_getElem_self]
  have := h z hz
  rwa [e] at this
theorem s_appG {α : Type} {enc : α → PyData} {zs : List α} {z : α} (i : Nat) (ho : env[i]? = some (.own (zs.map enc))) (he : PE X e (tE X.K true env (enc z))) (hz : zs.length < sizeLine) (h : E.nx (env.set i (.own ((zs ++ [z]).map enc))))
    (hi : X.N[i]? = some x := by rfl) (hv : Vis X.env.scope x := by first | exact .inl rfl | exact .inr (.inl rfl) | exact .inr (.inr rfl))
    (hd : (x == ("__debug__" : Str)) = false := by decide) (hcd : (x == ("__classdict__" : Str)) = false := by decide) (na : NS X e := by exact fun _ => rfl)
    (hbase : attributeBase (.Name x p1) "append" X.env (eval (.Name x p1) X.env) = eval (.Name x p1) X.env := by rfl) (hline : (p2.endLine == p3.line) = true := by rfl)
    (hs : swapsWith (.Call (.Attribute (.Name x p1) "append" p2) [e] [] p3) none pos.line X.env = pure false := by rfl) : PS X (.Expr (.Call (.Attribute (.Name x p1) "append" p2) [e] [] p3) pos) (tS X.K env E) :=
  s_app i hi hv ho he (by rw [List.length_map]; exact hz) (by rw [List.map_append] at h; exact h) hd hcd na hbase hline hs
end
end D3
namespace D3
open PySem PySem.Spec L2

/-! ### a law that asks for repr: where it runs is known -/
section
variable {P : Program} {w : World} {K : KF} {mg : Str → Option Value} {x qual : Str} {st : Stmt} {fa : Addr} {fd : FuncData} {N : List Str} {k : Nat}
/-- the law's def, run where a law is run -/
def LawAt (P : Program) (w : World) (K : KF) (mg : Str → Option Value) (k : Nat) (fa : Addr) (fd : FuncData) (R : List Int → RS → Prop) : Prop :=
  ∀ (base : Heap) (s : Shared) (H : Hp) (u : Value) (a : Addr) (ns : List Int) (r : RS) (Q : VK), Env0 P w K mg base callerA [] s H → BindsTo s fd ⟨[u], []⟩ [("script", u)] → RelV (.ref a) u → SqL K H a (ns.map V.int) → R ns r → RtOk K H H r Q →
    codeAny (model P w) callerA (.call (.ref fa) ⟨[u], []⟩) (CR CX0 [] P w H s Q E0) s
theorem law_at {R : List Int → RS → Prop} (F : Fn K x qual st fa fd) (S : FnScope N ["script"] (defScope st)) (hr : Room (k + 1) callerA)
    (hb : ∀ (base : Heap) (cdv : Value) (s : Shared) (H : Hp) (ns : List Int) (r : RS), Room k (callerA.deeper (PyProof.Rows.envOfC qual (defScope st) s.heap.objs.size fa cdv)) → R ns r →
      PSs (cx0 P w K mg base N qual st fa cdv callerA [] s H E0) (defBody st) (tS K (.scr ns :: List.replicate (N.length - 1) .no) ⟨fun _ => r = .dat .none, (· = r), fun _ => False, fun _ => False⟩)) : LawAt P w K mg k fa fd R := by
  intro base s H u a ns r Q env0' bd rel hS hR hQ
  obtain ⟨oc, od, dV, kV, doc, pm, an, cdv, ct, osl, e, lk, hcd, _, _⟩ := F.ex
  subst e
  have kin : K.In s.heap := env0'.mod.kin.keeps fun b o q => (env0'.bs b o q).1
  have lim := env0'.mod.nolimit.keeps fun b o q => (env0'.bs b o q).1
  have kinds : ∀ y ∈ [(("script" : Str), u)], (defScope st).names.lookup y.1 = some .local ∨ ((defScope st).names.lookup y.1 = some .cell ∧ ((cellsFrom (s.heap.objs.size + 1) (defScope st).names []).lookup y.1).isSome = true) := by
    intro y hy
    rw [List.mem_singleton] at hy
    subst hy
    exact (S.par "script" (List.mem_singleton.mpr rfl)).imp id fun q => ⟨q, PySem.W.cellsFrom_some _ _ _ (.inl q)⟩
  refine codeAny_call_function hr.depth (kin _ _ lk) rfl S.co S.gen rfl
    (PySem.W.codeRec_of kin hcd) (bd _ _ _ _ ?_)
  refine wpAny_newFunctionEnv_cells S.kind kinds fun env he s1 st1 => ?_
  subst he
  refine ⟨lim.keeps st1.toInCall.keep, codeAny_func ?_⟩
  have body := hb base cdv s H ns r (hr.deeper _) hR
  have I : Inv (cxOf CX0 P w K mg base N qual (defScope st) fa cdv callerA [] s H E0) [] (L2.start N [.ref a]) H s1 :=
    inv_start S hr.hd env0' rfl (.cons rel .nil) st1
  have rd : tS K (.scr ns :: List.replicate (N.length - 1) .no) ⟨fun _ => r = .dat .none, (· = r), fun _ => False, fun _ => False⟩ { nx := fun _ H' => Q .non H', rt := Q } (L2.start N [.ref a]) H := by
    refine ⟨H, H, H, ok_scr N (Ex.refl H) hS, fun e' σ' F' H' hn ok' => ?_, fun _ _ _ _ z => z.elim, fun _ _ _ _ z => z.elim, fun r' hr' => ?_⟩
    · subst hn
      exact hQ .non F' H' ok'.g .non
    · subst hr'
      exact hQ
  refine wpAny_mono ((PSs.nox body).run [] s1 _ H _ I rd) (fun fl s' h => ?_) fun _ _ h => h
  cases fl with
  | ret z =>
    obtain ⟨v, σ', H', J, rv, q⟩ := h
    exact ⟨v, H', J.os, J.bare, J.base, J.hok, rv, q⟩
  | next =>
    obtain ⟨σ', H', J, q⟩ := h
    exact ⟨.non, H', J.os, J.bare, J.base, J.hok, rfl, q⟩
  | brk => exact h.elim fun _ h => h.elim fun _ h => h.2.elim
  | cont => exact h.elim fun _ h => h.elim fun _ h => h.2.elim
end
/-- the end of such a law -/
theorem law_ends {P : Program} {w : World} {K : KF} {mg mb : Str → Option Value} {k : Nat} {fa a : Addr} {fd : FuncData} {s₁ : Shared} {vs : List Value} {ns : List Int}
    (kx : K.In s₁.heap) (hns : s₁.heap.Ns mainGlobals mg) (hbn : s₁.heap.Ns builtinsNs mb) (hbb : ∀ x : Str, x ≠ "__name__" → mb x = bootBuiltins x) (lim : s₁.heap.NoLimit) (hgen : s₁.gens = #[])
    (ha : s₁.heap.get? a = some { cls := .type "list", data := .seq vs.toArray }) (hi : PyProof.Rows.IntsAre vs ns) (hl : ns.length ≤ 63)
    (F : LawAt P w K mg k fa fd fun ns r => ns.length ≤ 63 ∧ r = .dat (.bool true)) (bd : ∀ (s : Shared) (u : Value), BindsTo s fd ⟨[u], []⟩ [("script", u)]) :
    codeAny (model P w) callerA (.call (.ref fa) ⟨[.ref a], []⟩) (fun r s' => r = .ok (.ret (.bool true)) ∧ OldK s₁.heap s'.heap ∧ s'.os = s₁.os ∧ PyProof.Rows.AllBare s'.gens) s₁ := by
  have hsz : ns.length ≤ sizeLine := by rw [sizeLine_eq]; omega
  have len := hi.length
  have go : ∀ H : Hp, L2.Only H → SqL K H a (ns.map V.int) → HOk P w H s₁.heap → (∀ b, H b ≠ none → b = a) → (H a ≠ none → K.lookup a = none) →
      codeAny (model P w) callerA (.call (.ref fa) ⟨[.ref a], []⟩) (fun r s' => r = .ok (.ret (.bool true)) ∧ OldK s₁.heap s'.heap ∧ s'.os = s₁.os ∧ PyProof.Rows.AllBare s'.gens) s₁ := by
    intro H only hS hok one notK
    have free : ∀ {b : Addr} {o : Obj} {es : Array DictEntry} {ep : Nat}, s₁.heap.get? b = some o → o.data = .dict es ep → H b = none := by
      intro b o es ep e d
      by_cases q : H b = none
      · exact q
      · have hb := one b q
        rw [hb, ha] at e
        have e2 := (Option.some.inj e).symm
        rw [e2] at d
        cases d
    have back : ∀ {b : Addr} {m : Str → Option Value}, s₁.heap.Ns b m → (hidT s₁.heap H).Ns b m := by
      rintro b m ⟨o, es, ep, e, d, r⟩
      exact ⟨o, es, ep, hidT_get e (free e d), d, r⟩
    have kin : K.In (hidT s₁.heap H) := by
      intro b o e
      refine hidT_get (kx b o e) ?_
      by_cases q : H b = none
      · exact q
      · have hb := one b q
        rw [hb] at e q
        rw [notK q] at e
        cases e
    have md : Mod K mg (hidT s₁.heap H) := by
      refine ⟨kin, back hns, ⟨mb, back hbn, hbb⟩, ?_⟩
      obtain ⟨mc, h1, h2⟩ := lim
      exact ⟨mc, back h1, h2⟩
    have en : Env0 P w K mg (hidT s₁.heap H) callerA [] s₁ H := by
      refine ⟨rfl, md, fun b o e => of_hidT e, Nat.le_of_eq (hidT_size _ _), trivial, fun b hb => ?_, hok, .of_eq hgen⟩
      exact absurd (show b ∈ ([] : List Addr) from hb) (by simp)
    refine codeAny_mono (F (hidT s₁.heap H) s₁ H (.ref a) a ns (.dat (.bool true)) (fun v _ => v = .bl true) en (bd s₁ _) rfl hS ⟨hl, rfl⟩ fun v F' H' g x => by cases x; rfl) fun r s' h => ?_
    cases r with
    | error e => exact h.elim
    | ok fl =>
      cases fl with
      | ret u =>
        obtain ⟨v, H', os, bare, un, hok', rel, q⟩ := h
        have q : v = .bl true := q
        subst q
        have hu : u = Value.bool true := rel
        subst hu
        refine ⟨rfl, OldK.of_keep fun b o e => ?_, os, bare⟩
        by_cases q : H b = none
        · exact un.keep b o e q (fun z => absurd (show b ∈ ([] : List Addr) from z) (by simp)) (by simp)
        · rcases only b with z | ⟨ob, xs, z⟩
          · exact absurd z q
          · have e1 := (hok b _ z).1
            rw [e] at e1
            have e2 := (hok' b _ (un.frzs b ob _ z)).1
            rw [e2, ← e1]
      | next => exact h.elim
      | brk => exact h.elim
      | cont => exact h.elim
  cases hk : K.lookup a with
  | some o =>
    have e := kx a o hk
    rw [ha] at e
    have e2 := Option.some.inj e
    subst e2
    refine go (fun _ => none) (fun _ => .inl rfl) (.inr ⟨_, vs.toArray, _, hk, rfl, rfl, rfl, by rw [List.size_toArray, len]; exact hsz, by simpa using L2.vals_ints hi⟩) (fun b u z => ?_) (fun b z => absurd rfl z) fun z => absurd rfl z
    cases (show (none : Option HO) = some u from z)
  | none =>
    let ob : Obj := { cls := .type "list", data := .seq vs.toArray }
    let H1 : Hp := upd (fun _ => none) a (.frz ob (.lst (ns.map V.int)))
    have off : ∀ b, b ≠ a → H1 b = none := fun b hb => upd_ne hb
    refine go H1 (fun b => ?_) (.inl (.inr ⟨ob, upd_same⟩)) (fun b u z => ?_) (fun b z => ?_) fun _ => hk
    · by_cases hb : b = a
      · subst hb; exact .inr ⟨_, _, upd_same⟩
      · exact .inl (off b hb)
    · by_cases hb : b = a
      · subst hb
        have z' := upd_same.symm.trans z
        cases z'
        exact ⟨ha, by rw [List.length_map]; exact hsz, vs, _, L2.vals_ints hi, ha⟩
      · have z' := (off b hb).symm.trans z
        cases z'
    · by_cases hb : b = a
      · exact hb
      · exact absurd (off b hb) z
theorem walk_law {l : PySem.W.OpenLaw} {k : Nat} {q : Program} {loose : List Str} {XP : (Str → Option Value) → Heap → Prop} {YP : World → Heap → Prop} {d : DefRec} (hn : l.most = some 63) (hdf : d.params.defaults = [])
    (F : ∀ (w : World) (mg : Str → Option Value) (fa : Addr) (h : Heap), YP w h → h.Ns mainGlobals mg → mg d.name = some (.ref fa) →
      ∃ (K : KF) (fd : FuncData), K.In h ∧ (∀ (s : Shared) (u : Value), BindsTo s fd ⟨[u], []⟩ [("script", u)]) ∧ LawAt l.prog w K mg k fa fd fun ns r => ns.length ≤ 63 ∧ r = .dat (.bool true)) :
    PySem.W.WalkO q loose XP YP l.row.toRowW d [] (fun f vs => PySem.call f vs) := by
  refine Att.attach_call hn hdf fun w s0 s1 mg mb fa o pm cd doc a vs ns G Y ho hd hcd hmg hobj hints hlen hg => ?_
  obtain ⟨K, fd, kx, bd, h⟩ := F w mg fa _ Y G.T.g hmg
  exact law_ends kx G.T.g G.T.b G.T.builtins G.T.nolimit hg hobj hints hlen h bd

/-! ### repr of data -/
section
variable {X : Cx} {K : KF} {e a b c : Expr} {m m1 : Bool} {env : List Sl} {d : PyData} {pos p1 : Pos}
theorem call_reprD (hg : X.A.guards = some []) (hu : X.A.units + 80 < cLine) : CallR X (.builtin "repr") (fun xs H Q => ∃ a d, xs = [.ref a] ∧ Dp X.K H (.ref a) d ∧ d.showable = true ∧ d.canLay0 = true ∧ d.depth ≤ 64 ∧ d.shown.length ≤ sizeLine ∧ Q (.str d.shown) H) := by
  intro pins s σ H xs us Q I r h
  obtain ⟨a, d, rfl, hd, h1, h2, h3, h4, q⟩ := h
  obtain ⟨u, rfl, t⟩ := vals1 r
  cases (show u = Value.ref a from t)
  obtain ⟨as, rd⟩ := Dp.reads I d (.ref a) (.ref a) hd rfl
  refine repr_of_reads' (h₀ := s.heap) rd h1 (PyData.noDict_hsm (PyData.hasDict_of_canLay d h2)) hg (by omega) (fun _ _ z => z) (fun h' u tk hk => ?_) h4
  exact ⟨.str _, H, I.kept hk, ⟨_, rfl⟩, q⟩
end
end D3
namespace D3
open PySem PySem.Spec L2 PyProof.Rows

/-! ### the program's own exceptions: class ModelError(ValueError), its __init__ -/
abbrev meA (z : Nat → Pos) : Arguments := { posonlyargs := [], args := [{ arg := "self", annotation := none, pos := z 10 }, { arg := "at", annotation := none, pos := z 11 }], vararg := none, kwonlyargs := [], kw_defaults := [], kwarg := none, defaults := [] }
abbrev meC (z : Nat → Pos) : Expr := .Call (.Attribute (.Call (.Name "super" (z 0)) [] [] (z 1)) "__init__" (z 2)) [.Name "at" (z 3)] [] (z 4)
abbrev meB (z : Nat → Pos) : List Stmt := [.Expr (meC z) (z 5), .Assign [.Attribute (.Name "self" (z 6)) "at" (z 7)] (.Name "at" (z 8)) (z 9)]
/-- super().__init__(at) is a method's call (it is, by the places of its signs) -/
def MeHe (z : Nat → Pos) : Prop := ∃ pl : Sem Bool, ∀ env : Env, eval (meC z) env = (do
      let ov ← attributeBase (.Call (.Name "super" (z 0)) [] [] (z 1)) "__init__" env (eval (.Call (.Name "super" (z 0)) [] [] (z 1)) env)
      standAt (z 2).atName
      let (f, first) ← holding [ov] (getMethod ov "__init__" pl)
      callWith (z 4) f first (backTo (z 4) (starEach [.Name "at" (z 3)] env)) [])
abbrev meS : Scope := { kind := .function, names := [("self", .local), ("at", .local), ("__class__", .free), ("super", .globalImplicit)], isGenerator := false, isCoroutine := false, more := [] }
structure MeTxt (P : Program) (K : KF) (mg : Str → Option Value) (M fI cc cda : Addr) (fd : FuncData) (z : Nat → Pos) : Prop where
  fn : ∃ (oc : Value) (od : Option Addr) (dV kV doc pm : Value) (an : Option Addr) (ct : Value) (osl : Array (Option Value)),
    K.lookup fI = some ⟨oc, od, .func fd, osl⟩ ∧ fd = (PySem.W.ksFn "__init__" "ModelError.__init__" (meA z) (meB z) meS dV kV doc pm an (.ref cda) ct cc)
  cd : PySem.W.codeIn K (.ref cda) "ModelError.__init__" = true
  code : ∃ (ccl : Value) (cdd : Option Addr) (vs : Array Value) (ccs : Array (Option Value)) (file : Str) (tf : Tok), K.lookup cda = some ⟨ccl, cdd, .fields vs, ccs⟩ ∧ vs[2]? = some (.str file tf) ∧ ((P.main.file : Str) == file) = true
  cell : ∃ (cl : Value) (cld : Option Addr) (csl : Array (Option Value)), K.lookup cc = some ⟨cl, cld, .cell (some (.ref M)), csl⟩
  cls : ∃ cdM, PySem.W.clsIn K M = some cdM
  he : MeHe z
  op : PySem.W.nsIn K cStatics "thirdparty.any" = some none
  sup : mg "super" = none
  top : (P.main.scope.names.lookup ("super" : Str)).isSome = false
/-- a class below ModelError -/
structure MeC (K : KF) (M C : Addr) : Prop where
  ox : OexC K C
  no : PySem.W.findIn K (.ref C) "at" = some none
  sup : PySem.W.ks_superIn K C M "__init__" = some (some (.builtin "ValueError.__init__"))
  sub : PySem.W.mroIn K C (.ref M) = some true
  ve : PySem.W.subIn K (.ref C) (.type "ValueError") = some true
def spMe (K : KF) (M : Addr) : Sp := fun vs H Q _ => ∃ a C v, vs = [.ref a, v] ∧ MeC K M C ∧ H a = some (exo a C none) ∧ ∀ dx, H dx = none → dx ≠ a → Q .non (upd (upd H dx (exd dx [("at", v)])) a (exo a C (some dx)))
theorem mw_call {prog : Program} {w : World} {A : Around} {E : Value → Shared → Prop} {h : Heap} {g : Array GenState} {d : Drawn} {t : Nat} {os : OsState} {nm q : Str} {C N u e t0 : Addr} {bs bm : List Value} {hdct : Bool} {sn : List Str} {sub : List Value} {ab : Bool} {col : Option Bool} {dd : Option Addr} {k0 k1 k2 k3 k5 : Option Value} {rest : List Value} {Q : Value → Shared → Prop}
    (hC : h.get? C = some (excClassObj nm q C N bs bm hdct sn sub ab col dd k0 k1 k2 k3 k5 "ValueError.__new__")) (he : h.get? e = some (HandSPX.excO C t0)) (hu : h.get? u = some (PySem.W.kxs_mw "ValueError.__init__" e)) (hrest : rest.length ≤ sizeLine)
    (hq : ∀ h' t1, (∀ b o, b ≠ e → h.get? b = some o → h'.get? b = some o) → h'.get? e = some (HandSPX.excO C t1) → Q .none ⟨h', g, d, t, os⟩) :
    wpAny (model prog w) A (call (.ref u) rest) Q E ⟨h, g, d, t, os⟩ := by
  refine wpAny_call (codeAny_of_tree ?_)
  show wpAny _ A.in1 (callAny (.ref u) ⟨rest, []⟩) _ _ _
  simp only [callAny]
  refine wpAny_bind (wpAny_load hu ?_)
  simp only [PySem.W.kxs_mw, show (Value.type "method-wrapper" == Value.type "method" || Value.type "method-wrapper" == Value.type "builtin_function_or_method" || Value.type "method-wrapper" == Value.type "method-wrapper") = true by decide, if_true]
  refine PySem.W.KFB.if_so (by decide) ?_
  refine wpAny_bind (PySem.W.check_bound_init F.excBase_ValueError.toExcCallFacts hC he rfl ?_)
  refine wpAny_bind (wpAny_pure (wpAny_pure ?_))
  refine ⟨Code.quiet_builtin _ (by decide +kernel), codeAny_builtin F.excBase_ValueError.initEntry ?_⟩
  rw [Around.under_plainId F.excBase_ValueError.init.plain _]
  refine PySem.W.exc_init_tree (cls := .ref C) (t0 := t0) (dv := none) (c2 := .none) (c3 := .none) (b4 := .bool false) he hrest fun h' k e' _ => hq h' _ k e'
theorem boot_super : bootBuiltins "super" = some (.type "super") := by decide +kernel
theorem me_init {P : Program} {w : World} {K : KF} {mg : Str → Option Value} {base : Heap} {CX : CXT} {k : Nat} {M fI cc cda : Addr} {fd : FuncData} {z : Nat → Pos} (T : MeTxt P K mg M fI cc cda fd z) : FnOk P w K mg base CX k fI fd ["self", "at"] (spMe K M) := by
  refine ⟨fun vs H Q E ⟨a, C, v, e, _⟩ => by rw [e]; rfl, fun A outer s H args us vs Q E hr e0 hb r hsp => ?_⟩
  obtain ⟨a, C, v, rfl, MC, ea, hQ⟩ := hsp
  obtain ⟨u, rfl, rv⟩ : ∃ u, us = [.ref a, u] ∧ RelV v u := by
    cases r with
    | cons r1 r2 =>
      cases r2 with
      | cons r2 r3 =>
        cases r3
        cases r1
        exact ⟨_, rfl, r2⟩
  obtain ⟨oc, od, dV, kV, doc, pm, an, ct, osl, lk, efd⟩ := T.fn
  obtain ⟨pl, he⟩ := T.he
  subst efd
  obtain ⟨ccl, cdd, vs, ccs, file, tf, lc, hvs, hfile⟩ := T.code
  obtain ⟨cl, cld, csl, lcell⟩ := T.cell
  obtain ⟨cdM, hM⟩ := T.cls
  have KX : K.In s.heap := e0.mod.kin.keeps fun b o e => (e0.bs b o e).1
  have lim : s.heap.NoLimit := e0.mod.nolimit.keeps fun b o e => (e0.bs b o e).1
  have glob : s.heap.Ns mainGlobals mg := e0.mod.glob.at fun o e => (e0.bs _ o e).1
  obtain ⟨mb, bn, bb⟩ := e0.mod.blt
  have bnS : s.heap.Ns builtinsNs mb := bn.at fun o e => (e0.bs _ o e).1
  obtain ⟨nm, q, N, bs, bm, sn, sub, ab, col, dd, j0, j1, j2, j3, j5, hC, hbm⟩ := MC.ox.cls
  have hcl : PySem.W.clsIn K C = some { name := nm, bases := bs, mro := .ref C :: bm, ns := N, qualname := q, hasDict := true, slotNames := sn, subclasses := sub, abstract := ab, collection := col, hasDel := false } := by unfold PySem.W.clsIn; rw [hC] <;> rfl
  obtain ⟨t1, hx⟩ := exo_at e0.hok ea
  have hxL : s.heap.objs.size ≠ a := Nat.ne_of_gt (Heap.lt_size hx)
  refine PySem.ks_codeAny_call_defAt (binds := [("self", .ref a), ("at", u)]) hr.depth (KX _ _ lk) rfl lim (PySem.W.codeRec_of KX T.cd) rfl hb (show ∀ x ∈ meS.names, x.2 ≠ .cell by decide) (by intro y hy; simp only [List.mem_cons, List.not_mem_nil, or_false] at hy; rcases hy with rfl | rfl <;> rfl) (fun h0 hns hk => ?_) rfl rfl rfl
  have K0 : K.In h0 := KX.keeps hk
  have hx0 := hk _ _ hx
  have hvS : ([("self", Value.ref a), ("at", u)] : List (Str × Value)).reverse.lookup ("self" : Str) = some (.ref a) := rfl
  have hvA : ([("self", Value.ref a), ("at", u)] : List (Str × Value)).reverse.lookup ("at" : Str) = some u := rfl
  obtain ⟨oM, hM1, hM2⟩ : ∃ oM, h0.get? M = some oM ∧ oM.data = .cls cdM := by
    unfold PySem.W.clsIn at hM
    split at hM
    · rename_i c d cd' sl ho
      cases hM
      exact ⟨_, K0 _ _ ho, rfl⟩
    · cases hM
  have I0 : PySem.W.InstAt h0 a ({ cls := .ref C, dict := none, data := .fields #[.ref t1, .none, .none, .none, .bool false, .none] } : Obj) C none := ⟨hx0, rfl, rfl, trivial⟩
  refine PySem.ks_wpAt_execs_cons (PySem.ks_wpAt_Expr_any (PySem.ks_wpAt_MethodCall (pl := pl) ?_ (he _)))
  refine PySem.ks_wpAt_super_base rfl rfl (by decide) rfl (K0 _ _ lk) rfl rfl rfl (K0 _ _ lc) rfl hvs hfile T.top ?_
  refine PySem.W.ks_loadName_global rfl rfl (PySem.Calls.loadGlobal_builtin (glob.at fun o e => hk _ o e) T.sup (bnS.at fun o e => hk _ o e) ((bb _ (by decide +kernel)).trans boot_super) ⟨rfl, ?_⟩)
  refine wpAny_loadName_free rfl rfl rfl ⟨_, K0 _ _ lcell, rfl⟩ ?_
  refine wpAny_loadName_local rfl rfl hns hvS ?_
  refine PySem.ks_wpAny_isType_cls hM1 hM2 ⟨rfl, ?_⟩
  refine PySem.ks_wpAny_call_super hM1 hM2 hx0 rfl (fun c e => by cases e) (PySem.W.looks_mroIn K0 MC.sub) (fun h1 e1 hk1 => ?_)
  have K1 : K.In h1 := K0.keeps hk1
  have I1 : PySem.W.InstAt h1 a ({ cls := .ref C, dict := none, data := .fields #[.ref t1, .none, .none, .none, .bool false, .none] } : Obj) C none := ⟨hk1 _ _ hx0, rfl, rfl, trivial⟩
  have hsup : PySem.W.alongIn K "__init__" ((((Value.ref C) :: bm).dropWhile (· != .ref M)).drop 1) = some (some (.builtin "ValueError.__init__")) := by
    have := MC.sup
    unfold PySem.W.ks_superIn at this
    rw [hcl] at this
    exact this
  have hM1r : PySem.W.Looks (model P w) h1 (mroOf (.ref C)) (.ref C :: bm) := fun A Q E s k q => wpAny_bind ((PySem.W.looks_clsIn K1 hcl) A _ E s k (wpAny_pure q))
  refine PySem.W.kxs_getMethod PySem.W.kxs_ValueError e1 (PySem.W.looks_opaque K1 T.op) hM1r rfl K1 hsup (I1.type.andThen (PySem.W.looks_subIn K1 MC.ve)) (PySem.W.ks_ne K0 I0 hcl) (by decide) ?_
  have hk2 : ∀ b o, h1.get? b = some o → (h1.push (PySem.W.kxs_mw "ValueError.__init__" a)).get? b = some o := fun b o e => Heap.get?_push_of_some _ e
  have hu2 : (h1.push (PySem.W.kxs_mw "ValueError.__init__" a)).get? h1.objs.size = some (PySem.W.kxs_mw "ValueError.__init__" a) := Heap.get?_push_at rfl rfl
  generalize h1.push (PySem.W.kxs_mw "ValueError.__init__" a) = h2 at hk2 hu2
  have K2 : K.In h2 := K1.keeps hk2
  have kk2 : ∀ b o, s.heap.get? b = some o → h2.get? b = some o := fun b o e => hk2 b o (hk1 b o (hk b o e))
  have hns2 := hns.at fun o e => hk2 _ o (hk1 _ o e)
  refine PySem.W.kxs_callWith (i := "ValueError.__init__") (x := a) rfl (PySem.Calls.evalArgs_plain ?_)
  refine PySem.Calls.spliced_cons (wpAny_Name (wpAny_loadName_local rfl rfl hns2 hvA ?_) (by decide))
  refine PySem.Calls.spliced_nil ⟨hu2, ?_⟩
  refine mw_call (K2 _ _ hC) (t0 := t1) (kk2 _ _ hx) hu2 (by show 1 ≤ sizeLine; rw [sizeLine_eq]; omega) fun h3 t3 k3 hx3 => ?_
  show PySem.wpAt _ _ _ (execs _ _) _ _ _
  have hns3 := hns2.at fun o e => k3 _ o hxL e
  have K3 : K.In h3 := fun b o e => k3 b o (fun z => by
    subst z
    have y := K2 _ _ e
    rw [kk2 _ _ hx] at y
    have z1 := K0 _ _ e
    have n0 := (e0.bs b o (e0.mod.kin _ _ e)).2
    rw [ea] at n0
    cases n0) (K2 _ _ e)
  refine PySem.ks_wpAt_execs_cons (PySem.wpAt_of_wpAny (plainObj_wpAny_Assign_Attribute ?_))
  refine wpAny_Name (wpAny_loadName_local rfl rfl hns3 hvA ?_) (by decide)
  refine wpAny_Name (wpAny_loadName_local rfl rfl hns3 hvS ?_) (by decide)
  refine PySem.W.set_plain K3 (ox := HandSPX.excO C t3) (od := none) ⟨hx3, rfl, rfl, trivial⟩ MC.ox.sa ?_
  refine HandSPX.exc_osa K3 hx3 hcl (show HandSPX.refsVE (.ref C :: bm) = true from hbm) rfl MC.no (fun h4 tk4 dx k4 dn dne hx4 hn4 => ?_)
  refine PySem.wpAt_of_wpAny (wpAny_execs_nil ?_)
  have dnS : s.heap.objs.size ≤ dx := by
    have z1 : s.heap.objs.size ≤ h3.objs.size := by
      obtain ⟨oL, es, ep, hL, _⟩ := hns3
      exact Nat.le_of_lt (Heap.lt_size hL)
    exact Nat.le_trans z1 dn
  have k : ∀ b o, b ≠ a → s.heap.get? b = some o → h4.get? b = some o := fun b o hb e => k4 b o hb (k3 b o hb (kk2 b o e))
  have hnd : H dx = none := e0.hok.fresh dnS
  have nd : ∀ {b : Addr} {o : Obj}, s.heap.get? b = some o → b ≠ dx := fun {b o} q => Nat.ne_of_lt (Nat.lt_of_lt_of_le (Heap.lt_size q) dnS)
  have na : ∀ {b : Addr}, H b = none → b ≠ a := fun {b} n z => by
    rw [z, ea] at n
    cases n
  refine ⟨.non, upd (upd H dx (exd dx [("at", v)])) a (exo a C (some dx)), rfl, e0.bare, {
    keep := fun b o q n _ _ => k b o (na n) q
    slot := fun b o q n _ _ => ⟨o.slots, k b o (na n) q⟩
    free := fun b o q n _ => by rw [upd_ne (na n), upd_ne (nd q)]; exact n
    there := fun b o q _ => by
      by_cases hb : b = a
      · exact ⟨_, by rw [hb]; exact hx4⟩
      · exact ⟨o, k b o hb q⟩
    tups := fun b xs q => by rw [upd_ne (at_ne ea q exo_tup), upd_ne (ne_of_none q hnd)]; exact q
    frzs := fun b o v q => by rw [upd_ne (at_ne ea q exo_frz), upd_ne (ne_of_none q hnd)]; exact q
    tbls := fun b ps q => ⟨#[], by rw [upd_ne (at_ne ea q exo_tbl), upd_ne (ne_of_none q hnd), q]; simp⟩ }, fun b o q => ?_, rfl, hQ dx hnd dne⟩
  by_cases hb : b = a
  · subst hb
    rw [upd_same] at q
    cases q
    exact exo_ok hx4
  · rw [upd_ne hb] at q
    by_cases hd : b = dx
    · subst hd
      rw [upd_same] at q
      cases q
      exact exd_ok hn4 (relO_put (fs := []) rv fun g => True.intro)
    · rw [upd_ne hd] at q
      exact (e0.hok b o q).stay (fun c v hc z => k c v (by
          rcases hc with hc | hc
          · rw [hc]
            exact hb
          · exact at_ne ea hc exo_own) z)
        (fun c hc => by rw [upd_ne (at_ne ea hc exo_own), upd_ne (ne_of_none hc hnd)]; exact hc) (fun c xs hc => by rw [upd_ne (at_ne ea hc exo_tup), upd_ne (ne_of_none hc hnd)]; exact hc)

/-! ### the classes by their names -/
/-- a class of errors: x -/
structure ErC (K : KF) (mg : Str → Option Value) (fI : Addr) (x : Str) : Prop where
  c : MeC K (He.ga K "ModelError") (He.ga K x)
  iC : PySem.W.findIn K (.ref (He.ga K x)) "__init__" = some (some (.ref fI))
  hm : mg x = some (.ref (He.ga K x))
  exm : PySem.W.exmOne K (.ref (He.ga K x)) (.ref (He.ga K "ModelError")) = some true
  me : PySem.W.kitOne K (.ref (He.ga K x)) (.ref (He.ga K "ModelError")) = some true
  ic : ExcC K (He.ga K x)
  xf : XfC K (He.ga K x)
structure Er (P : Program) (w : World) (K : KF) (mg : Str → Option Value) (base : Heap) (xs : List Str) : Prop where
  ex : ∃ (fI : Addr) (fd : FuncData), FnOk P w K mg base CX0 0 fI fd ["self", "at"] (spMe K (He.ga K "ModelError")) ∧ Binds K fd ["self", "at"] [] ∧ PySem.W.typeIn K (.ref fI) = some (.type "function") ∧ ∀ x ∈ xs, ErC K mg fI x
  hM : mg "ModelError" = some (.ref (He.ga K "ModelError"))
  is : ∀ x ∈ xs, ∀ y ∈ xs, PySem.W.kitOne K (.ref (He.ga K x)) (.ref (He.ga K y)) = some (decide (x = y))
abbrev cxE (E : XK) : WX := fun cls d _ H => E cls d H
section
variable {X : Cx} {K : KF} {e a b c : Expr} {es : List Expr} {m m1 m2 m3 : Bool} {env : List Sl} {d d1 d2 : PyData} {ds rs : List PyData} {pos p p1 p2 p3 p4 : Pos} {x : Str} {i j : Int} {E : DE} {st : Stmt} {rest : List Stmt} {W : WX} {k n : Nat} {xs : List Str}
theorem raise_fin {F0 H0 F1 H1 : Hp} {σ : St} {a dx : Addr} {C : Addr} {v : V} {ep : List Sl → Prop} (ok : Ok K F0 H0 env σ F1 H1) (hep : ep env) (ha : H1 a = none) (hdx : upd H1 a (exo a C none) dx = none) (hne : dx ≠ a) (hv : Dq K F1 v d) (r : ∀ env σ v dd F H, ep env → Ok K F0 H0 env σ F H → H dd = some (.xd [("at", v)]) → Dq K F v d → W (.ref C) (some dd) σ H) :
    W (.ref C) (some dx) σ (upd (del (upd (upd (upd H1 a (exo a C none)) dx (exd dx [("at", v)])) a (exo a C (some dx))) a) dx (.xd [("at", v)])) := by
  have h1 : H1 dx = none := by rw [← hdx, upd_ne hne]
  have ex : Ex H1 (upd (del (upd (upd (upd H1 a (exo a C none)) dx (exd dx [("at", v)])) a (exo a C (some dx))) a) dx (.xd [("at", v)])) := fun b o e => by
    have hb1 : b ≠ a := ne_of_none e ha
    have hb2 : b ≠ dx := ne_of_none e h1
    rw [upd_ne hb2, del_ne hb1, upd_ne hb1, upd_ne hb2, upd_ne hb1]
    exact e
  exact r env σ v dx F1 _ hep (ok.grow (Grow.junk ok.g.fh ex)) upd_same hv
theorem s_raise {pr : Pos} {ep : List Sl → Prop} (ER : Er X.prog X.w X.K X.mg X.base xs) (hx : x ∈ xs) (hr : Room 2 X.A) (tk : Takes X W) (he : PE X e (tE X.K true env d)) (hep : ep env) (h : E.rt (.exc (He.ga X.K x) d ep W))
    (hc : X.calm = true := by rfl) (hg : Gl X x := by rfl) (hdb : (x == ("__debug__" : Str)) = false := by decide) (ns : NS X e := by exact fun _ => rfl) : PS X (.Raise (some (.Call (.Name x p) [e] [] pos)) none pr) (tS X.K env E) := by
  obtain ⟨⟨fI, fd, FI, hb, tI, hC⟩, _, _⟩ := ER
  have C := hC x hx
  refine psmono (ps_raise hc tk (pmk_oex (pos := pos) (p := p) C.c.ox C.iC tI (FI.mono (Nat.zero_le 1)) hr hb .nil (fun _ _ _ _ _ _ _ h => h.elim) hg C.hm (a_cons he a_nil (ns [])) hdb (ns []) rfl)) fun D σ H ⟨F0, H0, F, ok, nx, bk, ct, rt⟩ => ?_
  refine ⟨F0, H0, F, ok, fun vs F1 H1 g1 x1 => ?_⟩
  cases x1 with
  | cons x1 x2 =>
    cases x2
    rename_i v
    refine ⟨by simp, fun a ha => ⟨a, _, v, rfl, C.c, upd_same, fun dx hdx hne => ⟨rfl, dx, [("at", v)], upd_same, ?_, ?_, ?_⟩⟩⟩
    · rw [upd_ne hne]; exact upd_same
    · rw [← hdx, upd_ne hne]
    · exact raise_fin (ok.grow g1) hep ha hdx hne x1 (rt _ h)
end
/-! ### defs that may raise -/
def spX (K : KF) (n : Nat) (R : WX → List PyData → RS → Prop) : Sp := fun vs H Q E => ∃ F ds r, Ex F H ∧ DqAll K F vs ds ∧ ds.length = n ∧ R (cxE E) ds r ∧ RtOk K F H r Q
section
variable {P : Program} {w : World} {K : KF} {mg : Str → Option Value} {base : Heap} {x qual : Str} {st : Stmt} {f : Addr} {fd : FuncData} {N ps : List Str} {k : Nat} {R : WX → List PyData → RS → Prop}
abbrev cx1 (P : Program) (w : World) (K : KF) (mg : Str → Option Value) (base : Heap) (N : List Str) (qual : Str) (st : Stmt) (f : Addr) (cdv : Value) (A : Around) (outer : List Env) (s : Shared) (H : Hp) (E : XK) : Cx := cxOf (L2.CX P w) P w K mg base N qual (defScope st) f cdv A outer s H E
theorem def_okX (F : Fn K x qual st f fd) (S : FnScope N ps (defScope st))
    (hb : ∀ (cdv : Value) (A : Around) (outer : List Env) (s : Shared) (H : Hp) (E : XK) (ds : List PyData) (r : RS), Room k (A.deeper (PyProof.Rows.envOfC qual (defScope st) s.heap.objs.size f cdv)) → ds.length = ps.length → R (cxE E) ds r →
      Takes (cx1 P w K mg base N qual st f cdv A outer s H E) (cxE E) → PassesOwn (model P w) (cx1 P w K mg base N qual st f cdv A outer s H E).A (cx1 P w K mg base N qual st f cdv A outer s H E).env (cx1 P w K mg base N qual st f cdv A outer s H E).xe →
      PSs (cx1 P w K mg base N qual st f cdv A outer s H E) (defBody st) (tS K (env0 N.length ds) ⟨fun _ => r = .dat .none, (· = r), fun _ => False, fun _ => False⟩)) : FnOk P w K mg base (L2.CX P w) (k + 1) f fd ps (spX K ps.length R) := by
  refine FunD.ok F S (fun vs H Q E ⟨F, ds, r, e, h, hl, _⟩ => by rw [h.length, hl]) (fun cdv A outer s H vs Q E hr ⟨F, ds, r, e, h, hl, hR, hQ⟩ => ?_)
  refine ⟨_, hb cdv A outer s H E ds r hr hl hR (takes_of rfl rfl rfl rfl) (passes_of rfl), F, H, F, ok_start N e h, fun env' σ' F' H' hr' ok' => ?_, fun _ _ _ _ z => z.elim, fun _ _ _ _ z => z.elim, fun r' hr' => ?_⟩
  · subst hr'
    exact hQ .non F' H' ok'.g .non
  · subst hr'
    exact hQ
end
def DefX (P : Program) (w : World) (K : KF) (mg : Str → Option Value) (base : Heap) (k : Nat) (x : Str) (sp : Sp) : Prop := ∃ f fd ps, FnOk P w K mg base (L2.CX P w) k f fd ps sp ∧ mg x = some (.ref f) ∧ PySem.W.keepIn K (.ref f) = true ∧ Binds K fd ps []
theorem DefX.up {P : Program} {w : World} {K : KF} {mg : Str → Option Value} {base : Heap} {j k : Nat} {x : Str} {sp : Sp} (h : DefX P w K mg base j x sp) (l : j ≤ k) : DefX P w K mg base k x sp := by
  obtain ⟨f, fd, ps, a, b⟩ := h
  exact ⟨f, fd, ps, a.mono l, b⟩
theorem At.defX {P : Program} {w : World} {K : KF} {mg : Str → Option Value} {base : Heap} {k : Nat} {x : Str} {st : Stmt} {ps : List Str} {sp : Sp} (a : At K mg x st ps) (h : ∀ f fd, Fn K x x st f fd → FnOk P w K mg base (L2.CX P w) k f fd ps sp) : DefX P w K mg base k x sp := by
  obtain ⟨f, fd, F, hm, hb⟩ := a.ex
  exact ⟨f, fd, ps, h f fd F, hm, F.kp, hb⟩
section
variable {X : Cx} {K : KF} {e a b c : Expr} {es : List Expr} {m m1 m2 m3 : Bool} {env : List Sl} {d d1 d2 : PyData} {ds rs : List PyData} {pos p p1 p2 p3 p4 : Pos} {x : Str} {i j : Int} {E : DE} {st : Stmt} {rest : List Stmt} {W : WX} {k n : Nat} {xs : List Str} {R : WX → List PyData → RS → Prop} {ep : List Sl → Prop}
theorem run_fnX {f : Addr} {fd : FuncData} {ps : List Str} {sp : Sp} {pins : List (Addr × Obj)} {σ : St} {H : Hp} {s : Shared} {Q : VK} {us : List Value} {vs : List V} (F : FnOk X.prog X.w X.K X.mg X.base (L2.CX X.prog X.w) k f fd ps sp) (hr : Room k X.A) (hb : Binds X.K fd ps []) (tk : Takes X W)
    (I : Inv X pins σ H s) (r : Vals vs us) (h : sp vs H Q (fun c d H' => W c d σ H')) : wpAny (model X.prog X.w) X.A (call (.ref f) us) (EP X pins σ Q) X.xe s := by
  have hl : us.length = ps.length := by rw [← r.length]; exact F.len _ _ _ _ h
  refine wpAny_call (codeAny_mono (F.run X.A X.stack s H ⟨us, []⟩ us vs Q _ hr I.env0 (by have := hb s us I.kIn (by simpa using hl); simpa using this) r h) fun r s' hq => ?_)
  cases r with
  | error er => exact tk _ _ (XE.of_call I (fun cls d H' h => h) hq)
  | ok fl =>
    cases fl with
    | ret u => exact I.after hq
    | next => exact False.elim hq
    | brk => exact False.elim hq
    | cont => exact False.elim hq
theorem pe_callX {f : Addr} {fd : FuncData} {ps : List Str} {sp : Sp} {t : TA} (F : FnOk X.prog X.w X.K X.mg X.base (L2.CX X.prog X.w) k f fd ps sp) (hr : Room k X.A) (hg : Gl X x) (hm : X.mg x = some (.ref f)) (hk : PySem.W.keepIn X.K (.ref f) = true) (hb : Binds X.K fd ps []) (tk : Takes X W)
    (ha : PA X (e :: es) t) (hdb : (x == ("__debug__" : Str)) = false := by decide) (he : starEach (e :: es) X.env = (false, eval e X.env) :: starEach es X.env := by rfl) (hpl : (backTo pos (starEach es X.env)).any (·.1) = false := by rfl) :
    PE X (.Call (.Name x p) (e :: es) [] pos) (fun σ H Q => t σ H fun vs H1 => sp vs H1 Q (fun c d H' => W c d σ H')) := by
  refine ⟨fun pins s σ H Q I h => ?_⟩
  refine wpAny_Call_Name_kw (ld_glob I hg hm ?_ hdb)
  refine PySem.W.callWith_K (h₀ := X.base) I.ok.mod.kin hk (thn (ha.run pos pins s σ H _ I h) fun us s1 ⟨vs, H1, I1, r, q⟩ => ⟨I1.kIn, ?_⟩) he hpl
  exact run_fnX F hr hb tk I1 r q
/-- a call that raises: whatever is wanted of its value -/
def tR (K : KF) (env : List Sl) (C : Addr) (d : PyData) (W : WX) : TE := fun σ H Q => ∃ F0 H0 F, Ok K F0 H0 env σ F H ∧ ∀ v dd F' H', Grow F H F' H' → H' dd = some (.xd [("at", v)]) → Dq K F' v d → W (.ref C) (some dd) σ H'
theorem r_call {C : Addr} (D : DefX X.prog X.w X.K X.mg X.base k x (spX X.K n R)) (hr : Room k X.A) (tk : Takes X W) (ha : PA X (e :: es) (tA X.K true env ds)) (hn : ds.length = n) (hR : ∀ W', R W' ds (.exc C d (fun _ => True) W')) (hg : Gl X x := by rfl) (hdb : (x == ("__debug__" : Str)) = false := by decide)
    (he : starEach (e :: es) X.env = (false, eval e X.env) :: starEach es X.env := by rfl) (hpl : (backTo pos (starEach es X.env)).any (·.1) = false := by rfl) : PE X (.Call (.Name x p) (e :: es) [] pos) (tR X.K env C d W) := by
  obtain ⟨f, fd, ps, Fo, hm, hk, hb⟩ := D
  exact pmono (pe_callX Fo hr hg hm hk hb tk ha hdb he hpl) fun σ H Q ⟨F0, H0, F, ok, q⟩ => ⟨F0, H0, F, ok, fun vs F1 H1 g1 x1 => ⟨F1, ds, _, g1.fh, x1, hn, hR _, fun env' σ' v dd F' H' _ ok' h1 h2 => q v dd F' H' (g1.trans ok'.g) h1 h2⟩⟩
/-- own lists among the arguments -/
theorem r_callH {C : Addr} (D : DefX X.prog X.w X.K X.mg X.base k x (spX X.K n R)) (hr : Room k X.A) (tk : Takes X W) (ha : PA X (e :: es) (tA X.K false env ds)) (hn : ds.length = n) (hs : scalD d = true) (hR : ∀ W', R W' ds (.exc C d (fun _ => True) W')) (hg : Gl X x := by rfl) (hdb : (x == ("__debug__" : Str)) = false := by decide)
    (he : starEach (e :: es) X.env = (false, eval e X.env) :: starEach es X.env := by rfl) (hpl : (backTo pos (starEach es X.env)).any (·.1) = false := by rfl) : PE X (.Call (.Name x p) (e :: es) [] pos) (tR X.K env C d W) := by
  obtain ⟨f, fd, ps, Fo, hm, hk, hb⟩ := D
  exact pmono (pe_callX Fo hr hg hm hk hb tk ha hdb he hpl) fun σ H Q ⟨F0, H0, F, ok, q⟩ => ⟨F0, H0, F, ok, fun vs F1 H1 g1 x1 => ⟨H1, ds, _, Ex.refl _, x1, hn, hR _, fun env' σ' v dd F' H' _ ok' h1 h2 => q v dd F1 H' (g1.trans (Grow.junk g1.fh ok'.g.hh)) h1 (h2.scal hs)⟩⟩
/-- a call that gives a value -/
theorem x_call (D : DefX X.prog X.w X.K X.mg X.base k x (spX X.K n R)) (hr : Room k X.A) (tk : Takes X W) (ha : PA X (e :: es) (tA X.K true env ds)) (hn : ds.length = n) (hR : ∀ W', R W' ds (.dat d)) (hg : Gl X x := by rfl) (hdb : (x == ("__debug__" : Str)) = false := by decide)
    (he : starEach (e :: es) X.env = (false, eval e X.env) :: starEach es X.env := by rfl) (hpl : (backTo pos (starEach es X.env)).any (·.1) = false := by rfl) : PE X (.Call (.Name x p) (e :: es) [] pos) (tE X.K m env d) := by
  obtain ⟨f, fd, ps, Fo, hm, hk, hb⟩ := D
  exact pmono (pe_callX Fo hr hg hm hk hb tk ha hdb he hpl) fun σ H Q ⟨F0, H0, F, ok, q⟩ => ⟨F0, H0, F, ok, fun vs F1 H1 g1 x1 => ⟨F1, ds, .dat d, g1.fh, x1, hn, hR _, fun v F2 H2 g2 x2 => q v F2 H2 (g1.trans g2) (seldn g2.fh x2)⟩⟩
theorem xo_call (D : DefX X.prog X.w X.K X.mg X.base k x (spX X.K n R)) (hr : Room k X.A) (tk : Takes X W) (ha : PA X (e :: es) (tA X.K true env ds)) (hn : ds.length = n) (hR : ∀ W', R W' ds (.own rs)) (hg : Gl X x := by rfl) (hdb : (x == ("__debug__" : Str)) = false := by decide)
    (he : starEach (e :: es) X.env = (false, eval e X.env) :: starEach es X.env := by rfl) (hpl : (backTo pos (starEach es X.env)).any (·.1) = false := by rfl) : PE X (.Call (.Name x p) (e :: es) [] pos) (tO X.K env rs) := by
  obtain ⟨f, fd, ps, Fo, hm, hk, hb⟩ := D
  exact pmono (pe_callX Fo hr hg hm hk hb tk ha hdb he hpl) fun σ H Q ⟨F0, H0, F, ok, q⟩ => ⟨F0, H0, F, ok, fun vs F1 H1 g1 x1 => ⟨F1, ds, .own rs, g1.fh, x1, hn, hR _, fun p vs2 F2 H2 g2 h1 h2 h3 h4 => q p vs2 F2 H2 (g1.trans g2) (g1.hh.back h1) h2 h3 h4⟩⟩
theorem tR_to {F0 H0 F H : Hp} {σ : St} {C : Addr} {Q : VK} (ok : Ok K F0 H0 env σ F H) (hep : ep env) (r : RtOk K F0 H0 (.exc C d ep W) Q) {Q' : VK} : tR K env C d W σ H Q' :=
  ⟨F0, H0, F, ok, fun v dd F' H' g h1 h2 => r env σ v dd F' H' hep (ok.grow g) h1 h2⟩
/-- statements that end by such a call -/
theorem s_rexpr {C : Addr} (he : PE X e (tR X.K env C d W)) (hep : ep env) (h : E.rt (.exc C d ep W)) (hs : swapsWith e none pos.line X.env = pure false := by rfl) : PS X (.Expr e pos) (tS X.K env E) :=
  psmono (ps_expr he hs) fun D σ H ⟨F0, H0, F, ok, nx, bk, ct, rt⟩ => tR_to ok hep (rt _ h)
theorem s_rret {C : Addr} (he : PE X e (tR X.K env C d W)) (hep : ep env) (h : E.rt (.exc C d ep W)) : PS X (.Return (some e) pos) (tS X.K env E) :=
  psmono (ps_ret he) fun D σ H ⟨F0, H0, F, ok, nx, bk, ct, rt⟩ => tR_to ok hep (rt _ h)
end
end D3
namespace D3
open PySem PySem.Spec L2 PyProof.Rows

/-! ### try .. except ModelError as e -/
theorem Ok.setExc {K : KF} {F0 H0 F H : Hp} {env : List Sl} {σ : St} (o : Ok K F0 H0 env σ F H) {i : Nat} {a dd : Addr} {v : V} {d : PyData} (hx : H dd = some (.xd [("at", v)])) (hd : Dq K F v d) : Ok K F0 H0 (env.set i (.exc a dd d)) (σ.set i (some (.ref a))) F H where
  g := o.g
  dat := fun j e h => by
    rcases get_set_cases h with ⟨rfl, hl, q⟩ | ⟨ne, q⟩
    · cases q
    · obtain ⟨w, a, b⟩ := o.dat j e q
      exact ⟨w, by rw [List.getElem?_set_ne ne]; exact a, b⟩
  own := fun j e h => by
    rcases get_set_cases h with ⟨rfl, hl, q⟩ | ⟨ne, q⟩
    · cases q
    · obtain ⟨p, vs, a, r⟩ := o.own j e q
      exact ⟨p, vs, by rw [List.getElem?_set_ne ne]; exact a, r⟩
  sep := fun j k ds es p h1 h2 h3 h4 => by
    rcases get_set_cases h1 with ⟨rfl, hl, q⟩ | ⟨ne, q⟩
    · cases q
    · rcases get_set_cases h2 with ⟨rfl, hl, q'⟩ | ⟨ne', q'⟩
      · cases q'
      · rw [List.getElem?_set_ne ne] at h3
        rw [List.getElem?_set_ne ne'] at h4
        exact o.sep j k ds es p q q' h3 h4
  scr := fun j e h => by
    rcases get_set_cases h with ⟨rfl, hl, q⟩ | ⟨ne, q⟩
    · cases q
    · obtain ⟨p, a, r⟩ := o.scr j e q
      exact ⟨p, by rw [List.getElem?_set_ne ne]; exact a, r⟩
  exc := fun j a2 dd2 e h => by
    rcases get_set_cases h with ⟨rfl, hl, q⟩ | ⟨ne, q⟩
    · cases q
      exact ⟨v, by rw [List.getElem?_set_self (by rw [o.len]; exact hl)], hx, hd⟩
    · obtain ⟨p, a, r⟩ := o.exc j a2 dd2 e q
      exact ⟨p, by rw [List.getElem?_set_ne ne]; exact a, r⟩
  len := by rw [List.length_set, List.length_set, o.len]
section
variable {X : Cx} {K : KF} {env : List Sl} {E : DE} {c : Value} {i : Nat} {body suite : List Stmt} {b₀ : Stmt} {np pos pos' : Pos} {x n : Str}
theorem s_try {ep : List Sl → Prop} {ex : Addr → PyData → Prop} (hN : X.N.Nodup) (hi : X.N[i]? = some n) (hc : Names X x c)
    (hm : ∀ C d, ex C d → PySem.W.exmOne X.K (.ref C) c = some true)
    (hb : ∀ (W : WX) (pn : List (Addr × Obj)) (xe : Value → Shared → Prop), Takes (X.tr pn xe) W → PassesOwn (model X.prog X.w) X.A X.env xe → PSs (X.tr pn xe) body (tS X.K env ⟨E.nx, fun r => E.rt r ∨ ∃ C d, ex C d ∧ r = .exc C d ep W, E.bk, E.ct⟩))
    (hsu : ∀ (C : Addr) (d : PyData) (env' : List Sl) (a dd : Addr) (oe : Obj) (pn : List (Addr × Obj)), ex C d → ep env' → Zc (.ref C) (some dd) oe → (∃ vs, oe.data = .fields vs) →
      PSs (X.suite a ((a, oe) :: pn)) (b₀ :: suite) (tS X.K (env'.set i (.exc a dd d)) ⟨fun e => E.nx (e.set i .no), E.rt, fun e => E.bk (e.set i .no), fun e => E.ct (e.set i .no)⟩))
    (hs : X.stack = X.env :: X.outer := by rfl) (hf : X.env.frame = some X.env.locals := by rfl) (hln : X.env.kindOf n = some .local := by rfl) :
    PS X (.Try body [.ExceptHandler (some (.Name x np)) (some n) (b₀ :: suite) pos'] [] [] pos) (tS X.K env E) := by
  refine psmono (ps_try_as (Wout := fun _ _ _ _ => False) (tb := fun W => tS X.K env ⟨E.nx, fun r => E.rt r ∨ ∃ C d, ex C d ∧ r = .exc C d ep W, E.bk, E.ct⟩)
    (ts := fun a cls d D σ H => ∃ C dd dat env', (cls = .ref C ∧ d = some dd ∧ ex C dat ∧ ep env') ∧ tS X.K (env'.set i (.exc a dd dat)) ⟨fun e => E.nx (e.set i .no), E.rt, fun e => E.bk (e.set i .no), fun e => E.ct (e.set i .no)⟩ D σ H)
    hs hf hN hi hln hc takes0 hb (fun a oe cls d pn hz hd => ⟨fun pins s σ H D I ⟨C, dd, dat, env', ⟨h1, h2, h3, h4⟩, q⟩ => ?_⟩)) fun D σ H ⟨F0, H0, F, ok, nx, bk, ct, rt⟩ => ?_
  · subst h1 h2
    exact (hsu C dat env' a dd oe pn h3 h4 hz hd).run pins s σ H D I q
  · refine ⟨F0, H0, F, ok, nx, bk, ct, fun r hr => ?_⟩
    rcases hr with hr | ⟨C, d, hx, rfl⟩
    · exact rt r hr
    · intro env' σ' v dd F' H' he ok' h1 h2
      refine ⟨true, hm C d hx, fun _ a ha => ⟨C, dd, d, env', ⟨rfl, rfl, hx, he⟩, F0, H0, F', ok'.setExc h1 h2, fun e2 σ2 F2 H2 q2 ok2 => nx _ _ F2 H2 q2 ok2.setNo, fun e2 σ2 F2 H2 q2 ok2 => bk _ _ F2 H2 q2 ok2.setNo, fun e2 σ2 F2 H2 q2 ok2 => ct _ _ F2 H2 q2 ok2.setNo, rt⟩, fun z => by cases z⟩
end
section
variable {X : Cx} {env : List Sl} {i : Nat} {p p1 p2 p3 pos : Pos} {n y : Str} {m : Bool} {a dd C : Addr} {oe : Obj} {pn : List (Addr × Obj)} {d : PyData}
/-- e.at -/
theorem e_excAt (i : Nat) (he : env[i]? = some (.exc a dd d)) (T : XfC X.K C) (hno : PySem.W.findIn X.K (.ref C) "at" = some none) (hz : Zc (.ref C) (some dd) oe) (hf : ∃ vs, oe.data = .fields vs) (hN : X.N[i]? = some n := by rfl) (hv : Vis X.env.scope n := by first | exact .inl rfl | exact .inr (.inl rfl) | exact .inr (.inr rfl))
    (hb : attributeBase (.Name n p) "at" X.env (eval (.Name n p) X.env) = eval (.Name n p) X.env := by rfl) (hd : (n == ("__debug__" : Str)) = false := by decide) (hcd : (n == ("__classdict__" : Str)) = false := by decide) :
    PE (X.suite a ((a, oe) :: pn)) (.Attribute (.Name n p) "at" pos) (tE X.K m env d) :=
  pmono (pe_xf (pn := pn) T hno hz hf (pe_var (X := X.suite a ((a, oe) :: pn)) hN hv hd hcd) hb) fun σ H Q ⟨F0, H0, F, ok, k⟩ => by
    obtain ⟨v, h1, h2, h3⟩ := ok.exc i a dd d he
    exact ⟨.ref a, h1, rfl, rfl, dd, _, v, rfl, h2, rfl, k v F H (Grow.refl ok.g.fh) (seldn ok.g.fh h3)⟩
theorem call_isX {b : Bool} {cv : Addr} (T : ExcC X.K C) (hz : Zc (.ref C) (some dd) oe) (hf : ∃ vs, oe.data = .fields vs) (e : PySem.W.kitOne X.K (.ref C) (.ref cv) = some b) :
    CallR (X.suite a ((a, oe) :: pn)) (.builtin "isinstance") (fun xs H Q => ∃ fs, xs = [.ref a, .ref cv] ∧ H dd = some (.xd fs) ∧ Q (.bl b) H) := by
  intro pins s σ H xs us Q I r h
  obtain ⟨fs, rfl, ea, q⟩ := h
  cases r with
  | cons rx rr =>
    cases rr with
    | cons rt rr =>
      cases rr
      cases rx
      cases rt
      obtain ⟨hget, _⟩ := I.pin (a, oe) (List.mem_append.mpr (.inl List.mem_cons_self))
      obtain ⟨vs, hv⟩ := hf
      have hx : ObjOk X.prog X.w H s.heap dd (.xd fs) := I.hok dd _ ea
      obtain ⟨mA, hns, hr⟩ := hx
      obtain ⟨od, ho, hl⟩ := lookIn_ns hns
      have J : PySem.W.InstAt s.heap a oe C (some od) := ⟨hget, hz.1, by unfold PySem.W.notCls; rw [hv] <;> rfl, by rw [hz.2]; exact ho⟩
      have hcl : (PySem.W.clsIn X.K C).isSome = true := by
        obtain ⟨cd, hc, _⟩ := PySem.W.any_some T.hd
        rw [hc]; rfl
      exact PySem.W.kia_one (PySem.W.kitx_exc hcl T.hg T.hk T.hs T.ha T.hn T.ht T.hm) I.kIn J e (fun z => nomatch z) fun tk => ⟨.bl b, H, I.kept (t' := tk) fun _ _ z => z, rfl, q⟩
/-- isinstance(e, Y) -/
theorem e_excIs {b : Bool} {cv : Addr} (i : Nat) (hm : X.mg "isinstance" = none) (he : env[i]? = some (.exc a dd d)) (T : ExcC X.K C) (hz : Zc (.ref C) (some dd) oe) (hf : ∃ vs, oe.data = .fields vs) (hy : X.mg y = some (.ref cv)) (e : PySem.W.kitOne X.K (.ref C) (.ref cv) = some b)
    (hN : X.N[i]? = some n := by rfl) (hv : Vis X.env.scope n := by first | exact .inl rfl | exact .inr (.inl rfl) | exact .inr (.inr rfl)) (hg : Gl X "isinstance" := by rfl) (hgy : Gl X y := by rfl)
    (hd : (n == ("__debug__" : Str)) = false := by decide) (hcd : (n == ("__classdict__" : Str)) = false := by decide) (hdy : (y == ("__debug__" : Str)) = false := by decide) :
    PE (X.suite a ((a, oe) :: pn)) (.Call (.Name "isinstance" p1) [.Name n p2, .Name y p3] [] pos) (tE X.K m env (.bool b)) :=
  pmono (pe_callB (X := X.suite a ((a, oe) :: pn)) (call_isX (pn := pn) T hz hf e) hg hm PyProof.Rows.boot_isinstance (pa_cons (pe_var hN hv hd hcd) (pa_cons (pe_glob (v := .ref cv) hgy hy rfl hdy) pa_nil))) fun σ H Q ⟨F0, H0, F, ok, k⟩ => by
    obtain ⟨v, h1, h2, h3⟩ := ok.exc i a dd d he
    exact ⟨.ref a, h1, _, rfl, h2, k _ F H (Grow.refl ok.g.fh) (.bl _)⟩
end

/-! ### the errors by their names, in a suite -/
section
variable {X : Cx} {env : List Sl} {i : Nat} {p p1 p2 p3 pos : Pos} {n y q : Str} {m : Bool} {a dd : Addr} {oe : Obj} {pn : List (Addr × Obj)} {d : PyData} {xs : List Str}
theorem e_eAt (i : Nat) (ER : Er X.prog X.w X.K X.mg X.base xs) (hq : q ∈ xs) (hz : Zc (.ref (He.ga X.K q)) (some dd) oe) (hf : ∃ vs, oe.data = .fields vs) (he : env[i]? = some (.exc a dd d) := by rfl) (hN : X.N[i]? = some n := by rfl) (hv : Vis X.env.scope n := by first | exact .inl rfl | exact .inr (.inl rfl) | exact .inr (.inr rfl))
    (hb : attributeBase (.Name n p) "at" X.env (eval (.Name n p) X.env) = eval (.Name n p) X.env := by rfl) (hd : (n == ("__debug__" : Str)) = false := by decide) (hcd : (n == ("__classdict__" : Str)) = false := by decide) :
    PE (X.suite a ((a, oe) :: pn)) (.Attribute (.Name n p) "at" pos) (tE X.K m env d) := by
  obtain ⟨⟨fI, fd, _, _, _, hC⟩, _, _⟩ := ER
  exact e_excAt i he (hC q hq).xf (hC q hq).c.no hz hf hN hv hb hd hcd
theorem e_eIs (i : Nat) (ER : Er X.prog X.w X.K X.mg X.base xs) (hm : X.mg "isinstance" = none) (hq : q ∈ xs) (hy : y ∈ xs) (hz : Zc (.ref (He.ga X.K q)) (some dd) oe) (hf : ∃ vs, oe.data = .fields vs) (he : env[i]? = some (.exc a dd d) := by rfl)
    (hN : X.N[i]? = some n := by rfl) (hv : Vis X.env.scope n := by first | exact .inl rfl | exact .inr (.inl rfl) | exact .inr (.inr rfl)) (hg : Gl X "isinstance" := by rfl) (hgy : Gl X y := by rfl)
    (hd : (n == ("__debug__" : Str)) = false := by decide) (hcd : (n == ("__classdict__" : Str)) = false := by decide) (hdy : (y == ("__debug__" : Str)) = false := by decide) :
    PE (X.suite a ((a, oe) :: pn)) (.Call (.Name "isinstance" p1) [.Name n p2, .Name y p3] [] pos) (tE X.K m env (.bool (decide (q = y)))) := by
  obtain ⟨⟨fI, fd, _, _, _, hC⟩, _, is⟩ := ER
  exact e_excIs i hm he (hC q hq).ic hz hf (hC y hy).hm (is q hq y hy) hN hv hg hgy hd hcd hdy
theorem e_eMe (i : Nat) (ER : Er X.prog X.w X.K X.mg X.base xs) (hm : X.mg "isinstance" = none) (hq : q ∈ xs) (hz : Zc (.ref (He.ga X.K q)) (some dd) oe) (hf : ∃ vs, oe.data = .fields vs) (he : env[i]? = some (.exc a dd d) := by rfl)
    (hN : X.N[i]? = some n := by rfl) (hv : Vis X.env.scope n := by first | exact .inl rfl | exact .inr (.inl rfl) | exact .inr (.inr rfl)) (hg : Gl X "isinstance" := by rfl) (hgy : Gl X "ModelError" := by rfl)
    (hd : (n == ("__debug__" : Str)) = false := by decide) (hcd : (n == ("__classdict__" : Str)) = false := by decide) :
    PE (X.suite a ((a, oe) :: pn)) (.Call (.Name "isinstance" p1) [.Name n p2, .Name "ModelError" p3] [] pos) (tE X.K m env (.bool true)) := by
  obtain ⟨⟨fI, fd, _, _, _, hC⟩, hM, _⟩ := ER
  exact e_excIs i hm he (hC q hq).ic hz hf hM (hC q hq).me hN hv hg hgy hd hcd (by decide)
end
/-- what a def that may raise tells: the error's class and its word, or none -/
abbrev Err : Type := Option (Str × Int)
def exOf (K : KF) (xs : List Str) (r : Err) : Addr → PyData → Prop := fun C d => ∃ q, r = some q ∧ q.1 ∈ xs ∧ C = He.ga K q.1 ∧ d = .int q.2
section
variable {X : Cx} {K : KF} {e a b c : Expr} {m m1 m2 : Bool} {env : List Sl} {E : DE} {d d1 d2 : PyData} {i j : Nat} {k : Bool} {body suite rest t1 t2 : List Stmt} {b₀ : Stmt} {np pos pos' p px py pt pt2 : Pos} {x y n : Str} {xs : List Str} {n1 n2 : Int} {kt k2 : Nat}
theorem c_ifT (hc : PT X c (tT K env k)) (hk : k = true) (h1 : PSs X t1 (tS K env (E.to fun e => PSs X rest (tS K e E)))) : PSs X (.If c t1 t2 pos :: rest) (tS K env E) :=
  s_fork (s_if hc (fun _ => h1) (fun h => by rw [hk] at h; cases h))
theorem s_tryM {r : Err} (ER : Er X.prog X.w X.K X.mg X.base xs) (hN : X.N.Nodup) (hi : X.N[i]? = some n) (ep : List Sl → Prop)
    (hb : ∀ (W : WX) (pn : List (Addr × Obj)) (xe : Value → Shared → Prop), Takes (X.tr pn xe) W → PassesOwn (model X.prog X.w) X.A X.env xe → PSs (X.tr pn xe) body (tS X.K env ⟨E.nx, fun z => E.rt z ∨ ∃ C d, exOf X.K xs r C d ∧ z = .exc C d ep W, E.bk, E.ct⟩))
    (hsu : ∀ (q : Str × Int) (env' : List Sl) (a dd : Addr) (oe : Obj) (pn : List (Addr × Obj)), r = some q → q.1 ∈ xs → ep env' → Zc (.ref (He.ga X.K q.1)) (some dd) oe → (∃ vs, oe.data = .fields vs) →
      PSs (X.suite a ((a, oe) :: pn)) (b₀ :: suite) (tS X.K (env'.set i (.exc a dd (.int q.2))) ⟨fun e => E.nx (e.set i .no), E.rt, fun e => E.bk (e.set i .no), fun e => E.ct (e.set i .no)⟩))
    (hg : Gl X "ModelError" := by rfl) (hs : X.stack = X.env :: X.outer := by rfl) (hf : X.env.frame = some X.env.locals := by rfl) (hln : X.env.kindOf n = some .local := by rfl) :
    PS X (.Try body [.ExceptHandler (some (.Name "ModelError" np)) (some n) (b₀ :: suite) pos'] [] [] pos) (tS X.K env E) := by
  have hC := ER.ex
  obtain ⟨fI, fd, _, _, _, hC⟩ := hC
  exact s_try (ex := exOf X.K xs r) (c := .ref (He.ga X.K "ModelError")) hN hi ⟨hg, by decide, .inl ER.hM⟩ (fun C d ⟨q, h1, h2, h3, h4⟩ => by rw [h3]; exact (hC _ h2).exm) hb
    (fun C d env' a dd oe pn ⟨q, h1, h2, h3, h4⟩ he hz hf => by subst h3 h4; exact hsu q env' a dd oe pn h1 h2 he hz hf) hs hf hln
/-- the truth of an int, of a list -/
theorem t_int (h : PE X e (tE X.K true env (.int n1))) (he : ∀ whole, isTrue e X.env whole = (do let v ← whole; standAt e.pos; holding [v] (truthy v)) := by intro _; rfl) : PT X e (tT X.K env (!decide (n1 = 0))) :=
  ptmono (pt_truth h he) fun σ H Q ⟨F0, H0, F, ok, q⟩ => ⟨F0, H0, F, ok, fun v F' H' g x => by
    cases x
    exact ⟨!decide (n1 = 0), rfl, q F' H' g⟩⟩
theorem t_lst {α : Type} {enc : α → PyData} {zs : List α} (h : PE X e (tL X.K env (zs.map enc))) (he : ∀ whole, isTrue e X.env whole = (do let v ← whole; standAt e.pos; holding [v] (truthy v)) := by intro _; rfl) : PT X e (tT X.K env (!zs.isEmpty)) :=
  ptmono (pt_truth h he) fun σ H Q ⟨F0, H0, F, ok, q⟩ => ⟨F0, H0, F, ok, fun p vs F' H' g x y => by
    refine ⟨!vs.isEmpty, .inl ⟨vs, sqOf x, rfl⟩, ?_⟩
    have hl := y.length
    have : vs.isEmpty = zs.isEmpty := by
      cases vs <;> cases zs <;> simp at hl <;> rfl
    rw [this]
    exact q F' H' g⟩
/-- a, b = x, y -/
theorem s_par (i j : Nat) (hN : X.N.Nodup) (hij : i ≠ j) (ha : PE X a (tE X.K true env d1)) (hb : PE X b (tE X.K true env d2)) (h : E.nx ((env.set i (.dat d1)).set j (.dat d2))) (hi : X.N[i]? = some x := by rfl) (hj : X.N[j]? = some y := by rfl) (hc : X.calm = true := by rfl)
    (hx : X.env.scope.names.lookup x = some .local := by rfl) (hy : X.env.scope.names.lookup y = some .local := by rfl) (hw : swappedStores [.Tuple [.Name x px, .Name y py] kt pt] (.Tuple [a, b] k2 pt2) X.env = pure (some [x, y]) := by rfl)
    (hs : swapsWithSole [.Tuple [.Name x px, .Name y py] kt pt] (.Tuple [a, b] k2 pt2) pos.line X.env = pure false := by rfl) (na : NS X a := by exact fun _ => rfl) (nb : NS X b := by exact fun _ => rfl) :
    PS X (.Assign [.Tuple [.Name x px, .Name y py] kt pt] (.Tuple [a, b] k2 pt2) pos) (tS X.K env E) :=
  psmono (ps_par hc hN hi hj hij hx hy (a_cons ha (a_cons hb a_nil (nb [])) (na [b])) hw hs) fun D σ H ⟨F0, H0, F, ok, n, _⟩ => ⟨F0, H0, F, ok, fun vs F1 H1 g1 x1 => by
    cases x1 with
    | cons x1 x2 =>
      cases x2 with
      | cons x2 x3 =>
        cases x3
        exact ⟨_, _, rfl, n _ _ F1 H1 h (((ok.grow g1).setDat x1).setDat x2)⟩⟩
/-- // by any divisor -/
theorem op_fdivZ : OpR X (binaryOp .FloorDiv) (rI (fun _ j => j ≠ 0 ∧ j.natAbs.log2 < 9000) fun i j => .int (i.fdiv j)) := opI fun _ _ _ _ _ _ _ hc q => floordiv_int hc.1 q (.inl (PyProof.noPylong_of_log2 hc.2))
theorem e_fdivZ (ha : PE X a (tE K true env (.int n1))) (hb : PE X b (tE K true env (.int n2))) (hc : n2 ≠ 0 ∧ n2.natAbs.log2 < 9000) : PE X (.BinOp a .FloorDiv b pos) (tE K m env (.int (n1.fdiv n2))) := e_I (g := fun i j => i.fdiv j) op_fdivZ hc ha hb
/-- a, b = e, targets of any kind -/
theorem s_unpk {tg : Expr} {g : TG} {f : List Sl → List Sl} {ix : List Nat} (he : PE X e (tE K true env d)) (hg : PG X tg g) (hf : Asg K g d f ix) (h : E.nx (f env)) (hs : swapsWithSole [tg] e pos.line X.env = pure false := by rfl) (hw : swappedStores [tg] e X.env = pure none := by rfl)
    (h1 : (assignEach [tg] X.env).map (·.2) = [assign tg X.env] := by rfl) : PS X (.Assign [tg] e pos) (tS K env E) :=
  psmono (ps_asg he hg hs hw h1) fun D σ H ⟨F0, H0, F, ok, n, _⟩ => ⟨F0, H0, F, ok, fun v F1 H1 g1 x1 => hf F0 H0 F1 H1 env σ v _ (ok.grow g1) x1 fun σ' ok' _ => n _ _ F1 H1 h ok'⟩
/-- the slots where it is raised are those ahead of the try -/
theorem s_tryE {r : Err} (ER : Er X.prog X.w X.K X.mg X.base xs) (hN : X.N.Nodup) (hi : X.N[i]? = some n)
    (hb : ∀ (W : WX) (pn : List (Addr × Obj)) (xe : Value → Shared → Prop), Takes (X.tr pn xe) W → PassesOwn (model X.prog X.w) X.A X.env xe → PSs (X.tr pn xe) body (tS X.K env ⟨E.nx, fun z => E.rt z ∨ ∃ C d, exOf X.K xs r C d ∧ z = .exc C d (· = env) W, E.bk, E.ct⟩))
    (hsu : ∀ (q : Str × Int) (a dd : Addr) (oe : Obj) (pn : List (Addr × Obj)), r = some q → q.1 ∈ xs → Zc (.ref (He.ga X.K q.1)) (some dd) oe → (∃ vs, oe.data = .fields vs) →
      PSs (X.suite a ((a, oe) :: pn)) (b₀ :: suite) (tS X.K (env.set i (.exc a dd (.int q.2))) ⟨fun e => E.nx (e.set i .no), E.rt, fun e => E.bk (e.set i .no), fun e => E.ct (e.set i .no)⟩))
    (hg : Gl X "ModelError" := by rfl) (hs : X.stack = X.env :: X.outer := by rfl) (hf : X.env.frame = some X.env.locals := by rfl) (hln : X.env.kindOf n = some .local := by rfl) :
    PS X (.Try body [.ExceptHandler (some (.Name "ModelError" np)) (some n) (b₀ :: suite) pos'] [] [] pos) (tS X.K env E) :=
  s_tryM ER hN hi (· = env) hb (fun q env' a dd oe pn h1 h2 h3 hz hf => by subst h3; exact hsu q a dd oe pn h1 h2 hz hf) hg hs hf hln
end
end D3
namespace D3
open PySem PySem.Spec L2 PyProof.Rows

/-! ### the errors' facts, read at the head -/
def excB (K : KF) (C : Addr) : Bool := match K.lookup C with
  | some ⟨.type "type", _, .cls cd, sl⟩ => (match cd.mro, sl.toList with
    | .ref C' :: bm, [_, _, _, _, some (.builtin n), _] => C' == C && (n == "ValueError.__new__" && (!cd.hasDel && (cd.hasDict && HandSPX.refsVE bm)))
    | _, _ => false)
  | _ => false
theorem excB_ok {K : KF} {C : Addr} (q : excB K C = true) : ∃ nm q N bs bm sn sub ab col dd k0 k1 k2 k3 k5, K.lookup C = some (excClassObj nm q C N bs bm true sn sub ab col dd k0 k1 k2 k3 k5 "ValueError.__new__") ∧ HandSPX.refsVE bm = true := by
  unfold excB at q
  split at q
  · rename_i dd cd sl ho
    split at q
    · rename_i C' bm k0 k1 k2 k3 n k5 hm hs
      simp only [Bool.and_eq_true, beq_iff_eq, Bool.not_eq_true'] at q
      obtain ⟨rfl, rfl, hdel, hdict, ht⟩ := q
      obtain ⟨nm, bs, mro, ns, qn, hd, sn, sub, ab, col, del⟩ := cd
      dsimp only at hm hdel hdict
      subst hm hdel hdict
      have hsl : sl = #[k0, k1, k2, k3, some (.builtin "ValueError.__new__"), k5] := by
        obtain ⟨l⟩ := sl
        simp only at hs
        rw [hs]
      subst hsl
      exact ⟨_, _, _, _, _, _, _, _, _, _, _, _, _, _, _, ho, ht⟩
    · cases q
  · cases q
def clsB (K : KF) (fI : Addr) (x : Str) : Bool :=
  [excB K (He.ga K x), decide (PySem.W.findIn K (.ref (He.ga K x)) "__setattr__" = some (some (.builtin "object.__setattr__"))), decide (PySem.W.subIn K (.ref (He.ga K x)) (.type "BaseException") = some true),
   decide (PySem.W.typeIn K (.ref (He.ga K x)) = some (.type "type")), PySem.W.keepIn K (.ref (He.ga K x)), decide (PySem.W.findIn K (.ref (He.ga K x)) "at" = some none),
   decide (PySem.W.ks_superIn K (He.ga K x) (He.ga K "ModelError") "__init__" = some (some (.builtin "ValueError.__init__"))), decide (PySem.W.mroIn K (He.ga K x) (.ref (He.ga K "ModelError")) = some true), decide (PySem.W.subIn K (.ref (He.ga K x)) (.type "ValueError") = some true),
   decide (PySem.W.findIn K (.ref (He.ga K x)) "__init__" = some (some (.ref fI))), decide (PySem.W.nsIn K mainGlobals x = some (some (.ref (He.ga K x)))), decide (PySem.W.exmOne K (.ref (He.ga K x)) (.ref (He.ga K "ModelError")) = some true),
   decide (PySem.W.kitOne K (.ref (He.ga K x)) (.ref (He.ga K "ModelError")) = some true), decide (PySem.W.findIn K (.ref (He.ga K x)) "__getattribute__" = some (some (.builtin "BaseException.__getattribute__"))), decide (PySem.W.findIn K (.ref (He.ga K x)) "__getattr__" = some none),
   PySem.W.hasDictIn K (He.ga K x), decide (PySem.W.findIn K (.ref (He.ga K x)) "__class__" = some (some (.builtin "object.__class__"))), decide (PySem.W.specialIn K (.builtin "object.__class__") "__get__" = some (some (.builtin "getset_descriptor.__get__"))),
   decide (PySem.W.takesIn K (.builtin "object.__class__") = some true), decide (PySem.W.mroIn K (He.ga K x) (.type "object") = some true)].all id
theorem clsB_ok {K : KF} {h : Heap} {mg : Str → Option Value} {fI : Addr} {x : Str} (X : K.In h) (G : h.Ns mainGlobals mg) (c : clsB K fI x = true) : ErC K mg fI x := by
  unfold clsB at c
  simp only [List.all_cons, List.all_nil, Bool.and_eq_true, id, decide_eq_true_eq, and_true] at c
  obtain ⟨c1, c2, c3, c4, c5, c6, c7, c8, c9, c10, c11, c12, c13, c14, c15, c16, c17, c18, c19, c20⟩ := c
  exact ⟨⟨⟨excB_ok c1, c2, c3, c4, c5⟩, c6, c7, c8, c9⟩, c10, PySem.W.mg_of X G c11, c12, c13, ⟨c14, c15, c3, c16, c17, c18, c19, c20⟩, ⟨c14, c15, c3, c16⟩⟩
/-- the init's function, its code, its cell -/
def meF (K : KF) : Addr := He.ma K (He.ga K "ModelError") "__init__"
abbrev MeW : Type := Option (Str × Str × Arguments × FuncBody × Scope × Addr × List Str × Addr)
def meW (K : KF) : MeW := match K.lookup (meF K) with
  | some ⟨_, _, .func fd, _⟩ => some (fd.name, fd.qualname, fd.params, fd.body, fd.scope, fd.globals, fd.closure.map (·.1), fd.builtins)
  | _ => none
def meV (z : Nat → Pos) : MeW := some ("__init__", "ModelError.__init__", meA z, .stmts (meB z), meS, mainGlobals, ["__class__"], builtinsNs)
def nonV : Value → Bool
  | .none => true
  | _ => false
def codeB (file : Str) (K : KF) (cda : Addr) : Bool := match K.lookup cda with
  | some ⟨_, _, .fields vs, _⟩ => (match (vs[2]? : Option Value) with
    | some (.str f _) => file == f
    | _ => false)
  | _ => false
def cellB (K : KF) (cc : Addr) : Bool := match K.lookup cc with
  | some ⟨_, _, .cell (some (.ref M)), _⟩ => decide (M = He.ga K "ModelError")
  | _ => false
def codB (P : Program) (K : KF) : Value → List (Str × Addr) → Bool
  | .ref cda, [(_, cc)] => PySem.W.codeIn K (.ref cda) "ModelError.__init__" && (codeB P.main.file K cda && cellB K cc)
  | _, _ => false
theorem codB_ok {P : Program} {K : KF} {c : Value} {l : List (Str × Addr)} (h : codB P K c l = true) : ∃ cda y cc, c = .ref cda ∧ l = [(y, cc)] ∧ PySem.W.codeIn K (.ref cda) "ModelError.__init__" = true ∧ codeB P.main.file K cda = true ∧ cellB K cc = true := by
  unfold codB at h
  split at h
  · rename_i cda y cc
    obtain ⟨d4, d5⟩ := He.ba h
    obtain ⟨d5, d6⟩ := He.ba d5
    exact ⟨cda, y, cc, rfl, rfl, d4, d5, d6⟩
  · cases h
def erB (P : Program) (xs : List Str) (K : KF) : Bool :=
  (match K.lookup (meF K) with
    | some ⟨_, _, .func fd, _⟩ => nonV fd.defaults && (nonV fd.kwdefaults && codB P K fd.code fd.closure)
    | _ => false) &&
  [decide (PySem.W.typeIn K (.ref (meF K)) = some (.type "function")), (PySem.W.clsIn K (He.ga K "ModelError")).isSome, decide (PySem.W.nsIn K cStatics "thirdparty.any" = some none), decide (PySem.W.nsIn K mainGlobals "super" = some none), !(P.main.scope.names.lookup ("super" : Str)).isSome,
   decide (PySem.W.nsIn K mainGlobals "ModelError" = some (some (.ref (He.ga K "ModelError")))), xs.all (clsB K (meF K)), xs.all fun x => xs.all fun y => decide (PySem.W.kitOne K (.ref (He.ga K x)) (.ref (He.ga K y)) = some (decide (x = y)))].all id
theorem nonV_ok {v : Value} (h : nonV v = true) : v = .none := by
  cases v <;> first | rfl | cases h
theorem er_of {P : Program} {w : World} {K : KF} {h base : Heap} {mg : Str → Option Value} {xs : List Str} {z : Nat → Pos} (X : K.In h) (G : h.Ns mainGlobals mg) (c : erB P xs K = true) (e : meW K = meV z) (he : MeHe z) : Er P w K mg base xs := by
  obtain ⟨c0, c⟩ := He.ba (show (_ && _) = true from c)
  simp only [List.all_cons, List.all_nil, Bool.and_eq_true, id, decide_eq_true_eq, and_true, Bool.not_eq_true'] at c
  obtain ⟨c1, c2, c3, c4, c5, c6, c7, c8⟩ := c
  unfold meW at e
  cases lk : K.lookup (meF K) with
  | none => rw [lk] at c0; cases c0
  | some o =>
    obtain ⟨oc, od, dt, osl⟩ := o
    rw [lk] at c0 e
    cases dt with
    | func fd =>
      obtain ⟨n1, n2, n3, n4, n5, n6, n7, n8, n9, n10, n11, n12, n13, n14, n15⟩ := fd
      have e2 : (some (n1, n2, n3, n4, n5, n6, n7.map (·.1), n15) : MeW) = meV z := e
      unfold meV at e2
      simp only [Option.some.injEq, Prod.mk.injEq] at e2
      obtain ⟨h1, h2, h3, h4, h5, h6, h7, h8⟩ := e2
      obtain ⟨d1, d2⟩ := He.ba (show (nonV n8 && _) = true from c0)
      obtain ⟨d2, d3⟩ := He.ba d2
      have d1' := nonV_ok d1
      have d2' := nonV_ok (show nonV n9 = true from d2)
      obtain ⟨cda, y, cc, hcode, hclo, d4, d5, d6⟩ := codB_ok (show codB P K n13 n7 = true from d3)
      subst hcode hclo
      have hy : y = "__class__" := by simpa using h7
      subst h1 h2 h3 h4 h5 h6 h8 d1' d2' hy
      refine ⟨⟨meF K, _, me_init (z := z) (M := He.ga K "ModelError") (cc := cc) (cda := cda) ⟨⟨_, _, _, _, _, _, _, _, _, lk, rfl⟩, d4, ?_, ?_, Option.isSome_iff_exists.mp c2, he, c3, PySem.W.mg_none_of X G c4, c5⟩, fun s us hK hl => ?_, c1, fun x hx => clsB_ok X G (List.all_eq_true.mp c7 x hx)⟩, PySem.W.mg_of X G c6, fun x hx y hy => of_decide_eq_true (List.all_eq_true.mp (List.all_eq_true.mp c8 x hx) y hy)⟩
      · unfold codeB at d5
        split at d5
        · rename_i a1 a2 vs a3 ho
          split at d5
          · rename_i f tk hv
            exact ⟨_, _, vs, _, f, tk, ho, hv, d5⟩
          · cases d5
        · cases d5
      · unfold cellB at d6
        split at d6
        · rename_i a1 a2 M a3 ho
          have := of_decide_eq_true d6
          subst this
          exact ⟨_, _, _, ho⟩
        · cases d6
      · obtain ⟨a, b, rfl⟩ : ∃ a b, us = [a, b] := by
          match us, hl with
          | [a, b], _ => exact ⟨a, b, rfl⟩
        exact BindsTo.of_eq (by first | rfl | with_unfolding_all rfl)
    | _ => cases c0
/-! ### the Hook -/
abbrev AlM : Type := He.AlD × Bool × MeW
def asM (g : Addr → Option Obj) (n : Nat) : List Addr := He.asD g n ++ [cStatics]
def obsM (fa : List He.Fa) (fn : List He.DefD) (P : Program) (xs : List Str) (K : KF) : AlM := (He.obsD fa fn K, erB P xs K, meW K)
def valM (fn : List He.DefD) (z : Nat → Pos) : AlM := (He.valD fn, true, meV z)
def SaysM (fa : List He.Fa) (fn : List He.DefD) (P : Program) (xs : List Str) (z : Nat → Pos) (K : KF) : Prop := obsM fa fn P xs K = valM fn z
def obsMG (n : Nat) (fa : List He.Fa) (fn : List He.DefD) (P : Program) (xs : List Str) (g : Addr → Option Obj) : AlM := obsM fa fn P xs (He.frG g (asM g n))
def hookM (n : Nat) (fa : List He.Fa) (fn : List He.DefD) (P : Program) (xs : List Str) (z : Nat → Pos) : PySem.W.Hook where
  α := AlM
  obs := fun s => obsMG n fa fn P xs s.heap.get?
  val := fun _ => valM fn z
  says := fun _ h => ∃ K : KF, K.In h ∧ SaysM fa fn P xs z K
  of := fun _ _ e => ⟨_, He.frG_in, e⟩
  keeps := fun _ _ _ ⟨K, hK, c⟩ k => ⟨K, PySem.W.Frag.In.keeps hK k, c⟩
theorem obsMG_eq {n : Nat} {fa : List He.Fa} {fn : List He.DefD} {P : Program} {xs : List Str} {z : Nat → Pos} {g : Addr → Option Obj} {s : Shared} (h : ∀ a, g a = s.heap.get? a) : obsMG n fa fn P xs g = (hookM n fa fn P xs z).obs s := by
  have e : g = s.heap.get? := funext h
  rw [e] <;> rfl
end D3
namespace W3
open PySem PySem.Spec L2 D3
abbrev St := L2.St
def topS (i : Nat) : Stmt := PySem.Challenge.pw_unsaidsizes_k66_ratios.main.body.getD i (.Pass ⟨0, 0, 0, 0⟩)
/-! the draws -/
def absI (x : Int) : Int := if x < 0 then -x else x
def dg : Nat → List Int × Int → List Int × Int := fun _ s => if 0 < s.2 then (s.1 ++ [s.2 % 65536], s.2 / 65536) else s
def mixA (r : Int) (k : Nat) : Int := ((r * 48271 + ((k : Int) + 1) * 69621) % 2147483647 * 16807 + 11 * (k : Int) + 5) % 2147483629
def dstep (ns : List Int) : Nat → List Int → List Int := fun k ds =>
  if 10 ^ (18 : Int).toNat ≤ absI (ns.getD k 0) then (iter dg (ds, absI (ns.getD k 0)) 60).1
  else ds ++ [mixA (absI (ns.getD k 0)) k % 65536] ++ [mixA (absI (ns.getD k 0)) k / 65536 % 32768]
def draws (ns : List Int) : List Int := iter (dstep ns) [] (if (ns.length : Int) < 63 then (ns.length : Int) else 63).toNat
theorem dg_len (s : List Int × Int) : ∀ n, (iter dg s n).1.length ≤ s.1.length + n
  | 0 => Nat.le_refl _
  | n + 1 => by
    have ih := dg_len s n
    rw [iter_succ, dg]
    split
    · rw [List.length_append]; simp; omega
    · omega
theorem ds_len (ns : List Int) : ∀ n, (iter (dstep ns) [] n).length ≤ 60 * n
  | 0 => Nat.le_refl _
  | n + 1 => by
    have ih := ds_len ns n
    rw [iter_succ, dstep]
    split
    · have := dg_len (iter (dstep ns) [] n, absI (ns.getD n 0)) 60
      simp only at this
      omega
    · simp only [List.length_append, List.length_cons, List.length_nil]; omega
def mixV (ds : List Int) (k : Int) : Int := if 0 < (ds.length : Int) then ds.getD (k % (ds.length : Int)).toNat 0 else 0
def mix (ds : List Int) (k m : Int) : Int := if k < (ds.length : Int) then mixV ds k % m else (mixV ds k * 7919 + k * 104729) / 3 % m
theorem mix_bd (ds : List Int) (k m : Int) (h : 0 < m) : 0 ≤ mix ds k m ∧ mix ds k m < m := by
  unfold mix
  split
  · exact ⟨Int.emod_nonneg _ (by omega), Int.emod_lt_of_pos _ h⟩
  · exact ⟨Int.emod_nonneg _ (by omega), Int.emod_lt_of_pos _ h⟩
/-! ### greatest common divisors -/
def eu : Nat → Nat × Nat → Nat × Nat := fun _ s => if s.2 = 0 then s else (s.2, s.1 % s.2)
theorem eu_front (s : Nat × Nat) : ∀ i, iter eu (eu 0 s) i = iter eu s (i + 1)
  | 0 => rfl
  | i + 1 => by
    rw [iter_succ, eu_front s i]
    rfl
theorem eu_gcd (s : Nat × Nat) : ∀ i, Nat.gcd (iter eu s i).1 (iter eu s i).2 = Nat.gcd s.1 s.2
  | 0 => rfl
  | i + 1 => by
    rw [iter_succ, ← eu_gcd s i]
    generalize iter eu s i = x
    unfold eu
    split
    · rfl
    · show Nat.gcd x.2 (x.1 % x.2) = _
      rw [Nat.gcd_comm, ← Nat.gcd_rec, Nat.gcd_comm]
theorem eu_done {s : Nat × Nat} {i : Nat} (h : (iter eu s i).2 = 0) : (iter eu s i).1 = Nat.gcd s.1 s.2 := by
  rw [← eu_gcd s i, h, Nat.gcd_zero_right]
def euT (a b : Nat) : Nat := if h : b = 0 then 0 else 1 + euT b (a % b)
termination_by b
decreasing_by exact Nat.mod_lt _ (Nat.pos_of_ne_zero h)
theorem eu_turns : ∀ (b a : Nat), (iter eu (a, b) (euT a b)).2 = 0 ∧ ∀ i, i < euT a b → (iter eu (a, b) i).2 ≠ 0 := by
  intro b
  induction b using Nat.strongRecOn with
  | ind b ih =>
    intro a
    rw [euT]
    split
    · rename_i h
      exact ⟨h, fun i hi => absurd hi (Nat.not_lt_zero i)⟩
    · rename_i h
      obtain ⟨h1, h2⟩ := ih (a % b) (Nat.mod_lt _ (Nat.pos_of_ne_zero h)) b
      have e : eu 0 (a, b) = (b, a % b) := if_neg h
      refine ⟨by rw [Nat.add_comm, ← eu_front, e]; exact h1, fun i hi => ?_⟩
      cases i with
      | zero => exact h
      | succ i =>
        rw [← eu_front, e]
        exact h2 i (by omega)
theorem half_mod (b r : Nat) (h0 : r ≠ 0) (h : r < b) : 2 * (b % r) ≤ b := by
  have h1 := Nat.mod_lt b (Nat.pos_of_ne_zero h0)
  have h2 := Nat.div_add_mod b r
  have h3 : 1 ≤ b / r := Nat.div_pos (Nat.le_of_lt h) (Nat.pos_of_ne_zero h0)
  have h4 : r * 1 ≤ r * (b / r) := Nat.mul_le_mul_left r h3
  omega
theorem eu_half (s : Nat × Nat) (i : Nat) : 2 * (iter eu s (i + 2)).2 ≤ (iter eu s i).2 := by
  rw [iter_succ, iter_succ]
  generalize iter eu s i = x
  obtain ⟨a, b⟩ := x
  unfold eu
  by_cases hb : b = 0
  · subst hb; simp
  · rw [if_neg (show ¬ (a, b).2 = 0 from hb)]
    by_cases hr : a % b = 0
    · rw [if_pos (show (b, a % b).2 = 0 from hr)]
      show 2 * (a % b) ≤ b
      omega
    · rw [if_neg (show ¬ (b, a % b).2 = 0 from hr)]
      exact half_mod b (a % b) hr (Nat.mod_lt _ (Nat.pos_of_ne_zero hb))
theorem eu_small (s : Nat × Nat) : ∀ k, (iter eu s (2 * k)).2 * 2 ^ k ≤ s.2
  | 0 => by simp [iter]
  | k + 1 => by
    have h := eu_half s (2 * k)
    have ih := eu_small s k
    rw [show 2 * (k + 1) = 2 * k + 2 from by omega, Nat.pow_succ]
    have : (iter eu s (2 * k + 2)).2 * (2 ^ k * 2) = (2 * (iter eu s (2 * k + 2)).2) * 2 ^ k := by
      rw [Nat.mul_comm (2 ^ k) 2, ← Nat.mul_assoc, Nat.mul_comm _ 2]
    rw [this]
    exact Nat.le_trans (Nat.mul_le_mul_right _ h) ih
theorem eu_stay (s : Nat × Nat) (i : Nat) (h : (iter eu s i).2 = 0) : ∀ n, (iter eu s (i + n)).2 = 0
  | 0 => h
  | n + 1 => by
    have ih := eu_stay s i h n
    show (eu (i + n) (iter eu s (i + n))).2 = 0
    generalize iter eu s (i + n) = x at ih
    unfold eu
    rw [if_pos ih]
    exact ih
theorem eu_end (a b B n : Nat) (hb : b < 2 ^ B) (hn : 2 * B ≤ n) : (iter eu (a, b) n).1 = Nat.gcd a b := by
  have h := eu_small (a, b) B
  have h0 : (iter eu (a, b) (2 * B)).2 = 0 := by
    apply Classical.byContradiction
    intro hne
    have : 1 * 2 ^ B ≤ (iter eu (a, b) (2 * B)).2 * 2 ^ B := Nat.mul_le_mul_right _ (Nat.pos_of_ne_zero hne)
    have h2 : (a, b).2 = b := rfl
    omega
  have h1 := eu_stay _ _ h0 (n - 2 * B)
  rw [show 2 * B + (n - 2 * B) = n from by omega] at h1
  exact eu_done h1
theorem abs_nat (x : Int) : (if x < 0 then -x else x) = (x.natAbs : Int) := by split <;> omega
/-! ### ratios -/
def cm (n d : Int) : Int := if d < 0 then -(Int.gcd n d : Int) else (Int.gcd n d : Int)
def ratioV (n d : Int) : Int × Int := (n.fdiv (cm n d), d.fdiv (cm n d))
def isR (p : Int × Int) : Bool := decide (0 < p.2) && decide ((Int.gcd p.1 p.2 : Int) = 1)
theorem gcd_pos {n d : Int} (h : d ≠ 0) : 0 < Int.gcd n d := Int.gcd_pos_of_ne_zero_right n h
theorem gcd_sm {n d : Int} {b : Nat} (h : d ≠ 0) (s : Sm b d) : Int.gcd n d < 2 ^ b := Nat.lt_of_le_of_lt (Nat.gcd_le_right _ (Int.natAbs_pos.mpr h)) s
theorem gcd_div {n d : Int} (h : d ≠ 0) (s : Sm 2000 d) : ((Int.gcd n d : Int) ≠ 0 ∧ (Int.gcd n d : Int).natAbs.log2 < 9000) ∧ (-(Int.gcd n d : Int) ≠ 0 ∧ (-(Int.gcd n d : Int)).natAbs.log2 < 9000) := by
  have h1 := gcd_pos (n := n) h
  have h2 : (Int.gcd n d).log2 < 2000 := PySem.Flt.log2_lt_of (by decide) (gcd_sm h s)
  exact ⟨⟨by omega, by rw [Int.natAbs_natCast]; omega⟩, ⟨by omega, by rw [Int.natAbs_neg, Int.natAbs_natCast]; omega⟩⟩
theorem gcd_split {n d : Int} (h : d ≠ 0) : ∃ g a b : Int, 0 < g ∧ (Int.gcd n d : Int) = g ∧ n = g * a ∧ d = g * b := by
  obtain ⟨a, ha⟩ := Int.gcd_dvd_left n d
  obtain ⟨b, hb⟩ := Int.gcd_dvd_right n d
  exact ⟨_, a, b, by have := gcd_pos (n := n) h; omega, rfl, ha, hb⟩
theorem fd {x c q : Int} (hc : c ≠ 0) (h : x = c * q) : x.fdiv c = q := by
  rw [h]
  exact Int.mul_fdiv_cancel_left q hc
theorem gcd_scale (n d m : Int) (hm : 0 < m) : (Int.gcd (n * m) (d * m) : Int) = (Int.gcd n d : Int) * m := by
  rw [Int.mul_comm n m, Int.mul_comm d m, Int.gcd_mul_left]
  rw [Int.natCast_mul, Int.natAbs_of_nonneg (by omega), Int.mul_comm]
theorem ratio_scale {n d m : Int} (hd : d ≠ 0) (hm : 0 < m) : ratioV (n * m) (-d * m) = ratioV (-n) d := by
  obtain ⟨g, a, b, hg, e, hn, hb⟩ := gcd_split (n := n) hd
  have e1 : (Int.gcd (n * m) (-d * m) : Int) = g * m := by
    rw [gcd_scale _ _ _ hm, Int.gcd_neg, e]
  have e2 : (Int.gcd (-n) d : Int) = g := by rw [Int.neg_gcd, e]
  have hgm : 0 < g * m := Int.mul_pos hg hm
  unfold ratioV cm
  rw [e1, e2]
  rcases Int.lt_or_gt_of_ne hd with h | h
  · have h1 : ¬ -d * m < 0 := by
      have := Int.mul_pos (show 0 < -d by omega) hm
      omega
    rw [if_neg h1, if_pos h, fd (q := a) (by omega) (by rw [hn]; ac_rfl), fd (q := -b) (by omega) (by rw [hb, Int.mul_neg, Int.neg_mul]; congr 1; ac_rfl), fd (q := a) (c := -g) (by omega) (by rw [hn, Int.neg_mul]), fd (q := -b) (c := -g) (by omega) (by rw [hb, Int.neg_mul_neg])]
  · have h1 : -d * m < 0 := by
      have := Int.mul_pos (show 0 < d by omega) hm
      rw [Int.neg_mul]; omega
    have h2 : ¬ d < 0 := by omega
    rw [if_pos h1, if_neg h2, fd (q := -a) (by omega) (by rw [hn, Int.neg_mul_neg]; ac_rfl), fd (q := b) (by omega) (by rw [hb, Int.neg_mul, Int.neg_mul]; congr 1; ac_rfl), fd (q := -a) (c := g) (by omega) (by rw [Int.mul_neg, ← hn]), fd (q := b) (c := g) (by omega) hb]
theorem isR_scale {n d m : Int} (hm : 0 < m) : isR (n * m, d * m) = (decide (0 < d) && decide ((Int.gcd n d : Int) * m = 1)) := by
  unfold isR
  show (decide (0 < d * m) && decide ((Int.gcd (n * m) (d * m) : Int) = 1)) = _
  rw [gcd_scale _ _ _ hm]
  have : (0 < d * m) ↔ 0 < d := by
    constructor
    · intro h
      apply Classical.byContradiction
      intro hn
      have := Int.mul_nonneg (show 0 ≤ -d by omega) (Int.le_of_lt hm)
      rw [Int.neg_mul] at this
      omega
    · intro h
      exact Int.mul_pos h hm
  simp only [this]
theorem ratio_ok {n d : Int} {b : Nat} (hd : 0 < d) (hn : Sm b n) (hs : Sm b d) : Sm b (ratioV n d).1 ∧ Sm b (ratioV n d).2 ∧ 0 < (ratioV n d).2 := by
  obtain ⟨g, x, y, hg, e, h1, h2⟩ := gcd_split (n := n) (d := d) (by omega)
  unfold ratioV cm
  rw [e, if_neg (by omega), fd (q := x) (by omega) h1, fd (q := y) (by omega) h2]
  have le : ∀ z : Int, z.natAbs ≤ (g * z).natAbs := fun z => by
    rw [Int.natAbs_mul]
    exact Nat.le_mul_of_pos_left _ (by omega)
  refine ⟨Nat.lt_of_le_of_lt (le x) (by rw [← h1]; exact hn), Nat.lt_of_le_of_lt (le y) (by rw [← h2]; exact hs), ?_⟩
  apply Classical.byContradiction
  intro hy
  have := Int.mul_nonneg (Int.le_of_lt hg) (show 0 ≤ -y by omega)
  rw [Int.mul_neg, ← h2] at this
  omega
/-! ### the law's own -/
def top3 (a b c : Int) (k : Int) : Int := [a, b, c].getD k.toNat 0
theorem top3_bd {a b c k : Int} (h : 0 ≤ k ∧ k < 3) (ha : 1 ≤ a ∧ a ≤ 1000000) (hb : 1 ≤ b ∧ b ≤ 1000000) (hc : 1 ≤ c ∧ c ≤ 1000000) : 1 ≤ top3 a b c k ∧ top3 a b c k ≤ 1000000 := by
  have : k = 0 ∨ k = 1 ∨ k = 2 := by omega
  rcases this with rfl | rfl | rfl <;> assumption
def integer (ds : List Int) (k : Int) : Int := mix ds (k + 1) (2 * top3 4 30 1000000 (mix ds k 3) + 1) - top3 4 30 1000000 (mix ds k 3)
theorem integer_bd (ds : List Int) (k : Int) : -1000001 < integer ds k ∧ integer ds k < 1000001 := by
  have h := top3_bd (mix_bd ds k 3 (by decide)) (a := 4) (b := 30) (c := 1000000) (by decide) (by decide) (by decide)
  have h2 := mix_bd ds (k + 1) (2 * top3 4 30 1000000 (mix ds k 3) + 1) (by omega)
  unfold integer
  omega
def dTop (ds : List Int) (k : Int) : Int := top3 3 20 1000000 (mix ds k 3)
def dNum (ds : List Int) (k : Int) : Int := mix ds (k + 1) (2 * dTop ds k + 1) - dTop ds k
def dSel (ds : List Int) (k : Int) : Int := [2, dTop ds k].getD (mix ds (k + 3) 2).toNat 0
def dDen (ds : List Int) (k : Int) : Int := 1 + mix ds (k + 2) (dSel ds k)
def drawnR (ds : List Int) (k : Int) : Int × Int := ratioV (dNum ds k) (dDen ds k)
theorem dTop_bd (ds : List Int) (k : Int) : 1 ≤ dTop ds k ∧ dTop ds k ≤ 1000000 := top3_bd (mix_bd ds k 3 (by decide)) (by decide) (by decide) (by decide)
theorem dSel_bd (ds : List Int) (k : Int) : 1 ≤ dSel ds k ∧ dSel ds k ≤ 1000000 := by
  have h := dTop_bd ds k
  have h2 := mix_bd ds (k + 3) 2 (by decide)
  have : mix ds (k + 3) 2 = 0 ∨ mix ds (k + 3) 2 = 1 := by omega
  unfold dSel
  rcases this with e | e <;> rw [e]
  · show (1 : Int) ≤ 2 ∧ (2 : Int) ≤ 1000000
    decide
  · exact h
theorem dNum_bd (ds : List Int) (k : Int) : -1000001 < dNum ds k ∧ dNum ds k < 1000001 := by
  have h := dTop_bd ds k
  have h2 := mix_bd ds (k + 1) (2 * dTop ds k + 1) (by omega)
  unfold dNum
  omega
theorem dDen_bd (ds : List Int) (k : Int) : 0 < dDen ds k ∧ dDen ds k < 1000001 := by
  have h := dSel_bd ds k
  have h2 := mix_bd ds (k + 2) (dSel ds k) (by omega)
  unfold dDen
  omega
/-- a ratio of numbers below 2 ^ 24 -/
def Rb (p : Int × Int) : Prop := Sm 24 p.1 ∧ Sm 24 p.2 ∧ 0 < p.2
theorem drawnR_ok (ds : List Int) (k : Int) : Rb (drawnR ds k) := by
  have h1 := dNum_bd ds k
  have h2 := dDen_bd ds k
  exact ratio_ok h2.1 (Sm.of (b := 1000001) h1 (by decide)) (Sm.of (b := 1000001) (by omega) (by decide))
def pdI : PyData → Int
  | .int n => n
  | _ => 0
abbrev XS : List Str := ["NoRatio"]
def refErr (u : Int) (x : PyData) : Int := if u = 0 then pdI x else 0
theorem sm_lt {x : Int} (h : Sm 24 x) : -(2 ^ 64) < x ∧ x < 2 ^ 64 := by
  unfold Sm at h
  have : (2 : Nat) ^ 24 = 16777216 := by decide
  omega
end W3
namespace W3
open PySem PySem.Spec L2 D3
local macro_rules | `(tactic| walk_at "d3") => `(tactic| first | omega | rfl | decide | assumption | (split <;> omega) | (simp only [decide_eq_true_eq, decide_eq_false_iff_not, Bool.not_eq_true', Bool.and_eq_true, Bool.or_eq_false_iff, Bool.not_eq_false', List.length_map] at *; first | omega | assumption))
local macro_rules | `(tactic| walk_at "len") => `(tactic| first | (have hsz := PySem.sizeLine_eq; (try simp only [List.length_cons, List.length_nil, List.length_map, List.length_append, List.length_replicate, List.length_take, List.length_drop, List.length_range] at *); first | omega | (split <;> (try simp only [List.length_map, List.length_nil]) <;> omega)) | decide)
local macro_rules | `(tactic| walk_at "app") => `(tactic| first | (have hsz := PySem.sizeLine_eq; (try simp only [List.length_cons, List.length_nil, List.length_map, List.length_append, List.length_replicate] at *); omega) | decide)
local macro_rules | `(tactic| walk_at "ne") => `(tactic| (intro hnil; subst hnil; simp at *))
local macro_rules | `(tactic| walk_at "ix") => `(tactic| ((try simp only [decide_eq_true_eq, decide_eq_false_iff_not, Bool.not_eq_true', Bool.and_eq_true, Bool.or_eq_false_iff, Bool.not_eq_false', List.length_map, List.length_replicate, List.length_set] at *); omega))
local macro_rules | `(tactic| walk_at "RET") => `(tactic| rfl)
local macro_rules | `(tactic| walk_at "start") => `(tactic| first | rfl | exact own_rep (by omega) | exact dat_int (by omega))
local macro_rules | `(tactic| walk_at "step") => `(tactic| first | rfl | exact dat_int (by omega) | (show Sl.own _ = Sl.own _; rw [iter_succ]; exact congrArg Sl.own setMap))
local macro_rules | `(tactic| walk_at "PRE") => `(tactic| first | assumption | omega | (constructor <;> omega))
local macro_rules | `(tactic| walk_at "hb") => `(tactic| skip)
local macro_rules | `(tactic| walk_at "mul") => `(tactic| assumption)
local macro_rules | `(tactic| walk_at "shape") => `(tactic| first | exact shaped_ints _ | decide)
local macro_rules | `(tactic| walk_at "IFS") => `(tactic| ((try simp only [decide_eq_true_eq, decide_eq_false_iff_not, Bool.not_eq_true', Bool.and_eq_true, Bool.or_eq_false_iff, Bool.not_eq_false', Bool.or_eq_true] at *); first | (simp only [*, if_true, if_false]; done) | (simp [*]; done)))
local macro_rules | `(tactic| walk_at "scal") => `(tactic| simp [List.all_eq_true, scalD])
local macro_rules | `(tactic| walk_at "mulS") => `(tactic| first | exact .inl (by assumption) | exact .inr (by assumption) | (unfold CMul; omega))
/-! ### common_divisor -/
abbrev s_common_divisor : Stmt := topS 1
theorem sc_common_divisor : FnScope ["one", "two"] ["one", "two"] (defScope s_common_divisor) := ⟨rfl, rfl, rfl, by decide +kernel, rfl, by decide +kernel, by decide +kernel⟩
def R_common_divisor (dd : List PyData) (r : RS) : Prop := ∃ (u : Int) (v : Int), dd = [(.int u), (.int v)] ∧ r = .dat (.int ((fun u v : Int => (Int.gcd u v : Int)) u v))
theorem ok_common_divisor {P : Program} {w : World} {K : KF} {mg : Str → Option Value} {base : Heap} {k : Nat} (B : Bt mg) (a : At K mg "common_divisor" s_common_divisor ["one", "two"]) : Def P w K mg base (k + 1) "common_divisor" (spD K 2 R_common_divisor) := by
  have nd := sc_common_divisor.nd
  refine a.def fun f fd F => def_ok F sc_common_divisor fun cdv A outer s H E ds r hr hl hR => ?_
  obtain ⟨u, v, rfl, rfl⟩ := hR
  show PSs _ _ (tS K [.dat (.int u), .dat (.int v)] _)
  refine s_then (s_set 0 nd rfl (e_abs B.abs (dv 0 rfl)) rfl) ?_
  refine s_env (env' := [_, _]) rfl ?_
  refine s_then (s_set 1 nd rfl (e_abs B.abs (dv 1 rfl)) rfl) ?_
  refine s_env (env' := [_, _]) rfl ?_
  refine c_while (fun i => [(0, .dat (.int ((iter eu (u.natAbs, v.natAbs) i).1 : Int))), (1, .dat (.int ((iter eu (u.natAbs, v.natAbs) i).2 : Int)))]) (fun i => !decide ((iter eu (u.natAbs, v.natAbs) i).2 = 0)) (euT u.natAbs v.natAbs) PassesOwn.never ⟨.inr (by
          first | (rw [abs_nat]; done) | (rw [abs_nat]; rfl)), ⟨.inr (by
          first | (rw [abs_nat]; done) | (rw [abs_nat]; rfl)), trivial⟩⟩ (fun i hi => ?_) ?_ (fun i hi => ?_) (fun i hi => ?_) ?_
  · rw [Bool.not_eq_true', decide_eq_false_iff_not]; exact (eu_turns _ _).2 i hi
  · rw [Bool.not_eq_false', decide_eq_true_eq]; exact (eu_turns _ _).1
  · refine t_eq (t_int (dv 1 rfl)) ?_
    congr 1; exact decide_eq_decide.mpr (by omega)
  · have hne := (eu_turns v.natAbs u.natAbs).2 i hi
    refine s_then (s_par 0 1 nd (by decide) (dv 1 rfl) (e_mod (dv 0 rfl) (dv 1 rfl) (by walk_at "d3")) rfl) ?_
    refine s_env (env' := [_, _]) rfl ?_
    refine s_nil ⟨.inr (by
            rw [iter_succ]; generalize iter eu (u.natAbs, v.natAbs) i = z at hne ⊢; first | (rw [eu, if_neg hne]; done) | (rw [eu, if_neg hne]; rfl)), ⟨.inr (by
            rw [iter_succ]; generalize iter eu (u.natAbs, v.natAbs) i = z at hne ⊢; first | (rw [eu, if_neg hne]; done) | (rw [eu, if_neg hne]; rfl)), trivial⟩⟩
  have hgd := eu_done (eu_turns v.natAbs u.natAbs).1
  exact s_last (s_ret (dv 0 rfl) (by
          first | (rw [hgd]; done) | (rw [hgd]; rfl)))
/-! ### ratio -/
abbrev s_ratio : Stmt := topS 6
theorem sc_ratio : FnScope ["n", "d", "common"] ["n", "d"] (defScope s_ratio) := ⟨rfl, rfl, rfl, by decide +kernel, rfl, by decide +kernel, by decide +kernel⟩
def R_ratio (dd : List PyData) (r : RS) : Prop := ∃ (u : Int) (v : Int), dd = [(.int u), (.int v)] ∧ (v ≠ 0) ∧ (Sm 2000 v) ∧ r = .dat ((eT2 PyData.int PyData.int) (ratioV u v))
theorem ok_ratio {P : Program} {w : World} {K : KF} {mg : Str → Option Value} {base : Heap} {k : Nat} (B : Bt mg) (D_common_divisor : Def P w K mg base k "common_divisor" (spD K 2 R_common_divisor)) (a : At K mg "ratio" s_ratio ["n", "d"]) : Def P w K mg base (k + 1) "ratio" (spD K 2 R_ratio) := by
  have nd := sc_ratio.nd
  refine a.def fun f fd F => def_ok F sc_ratio fun cdv A outer s H E ds r hr hl hR => ?_
  obtain ⟨u, v, rfl, hp1, hp2, rfl⟩ := hR
  show PSs _ _ (tS K [.dat (.int u), .dat (.int v), .no] _)
  refine c_ifF (c_eqI (m := true) (dv 1 rfl) e_int).2 ?_ ?_
  · exact decide_eq_false hp1
  refine s_then (s_set 2 nd rfl (e_call D_common_divisor hr (a_cons (m := true) (dv 0 rfl) (a_cons (m := true) (dv 1 rfl) (a_nil (m := true)))) rfl ⟨_, _, rfl, rfl⟩) rfl) ?_
  refine s_env (env' := [_, _, _]) rfl ?_
  refine s_fork (s_if (c_lt (m := true) (dv 1 rfl) e_int).2 (fun hb21 => ?_) (fun hb21 => ?_))
  · walk_at "hb"
    refine s_then (s_set 2 nd rfl (e_neg (dv 2 rfl)) rfl) ?_
    refine s_env (env' := [_, _, _]) rfl ?_
    refine s_nil ?_
    exact s_last (s_ret (e_tup2 (f := PyData.int) (g := PyData.int) (e_fdivZ (dv 0 rfl) (dv 2 rfl) (by
            first | exact (gcd_div hp1 hp2).1 | exact (gcd_div hp1 hp2).2)) (e_fdivZ (dv 1 rfl) (dv 2 rfl) (by
            first | exact (gcd_div hp1 hp2).1 | exact (gcd_div hp1 hp2).2))) (by
            unfold ratioV cm
            walk_at "IFS"))
  · walk_at "hb"
    refine s_nil ?_
    exact s_last (s_ret (e_tup2 (f := PyData.int) (g := PyData.int) (e_fdivZ (dv 0 rfl) (dv 2 rfl) (by
            first | exact (gcd_div hp1 hp2).1 | exact (gcd_div hp1 hp2).2)) (e_fdivZ (dv 1 rfl) (dv 2 rfl) (by
            first | exact (gcd_div hp1 hp2).1 | exact (gcd_div hp1 hp2).2))) (by
            unfold ratioV cm
            walk_at "IFS"))
/-! ### is_ratio -/
abbrev s_is_ratio : Stmt := topS 7
theorem sc_is_ratio : FnScope ["pair", "n", "d"] ["pair"] (defScope s_is_ratio) := ⟨rfl, rfl, rfl, by decide +kernel, rfl, by decide +kernel, by decide +kernel⟩
def R_is_ratio (dd : List PyData) (r : RS) : Prop := ∃ (u : (Int × Int)), dd = [((eT2 PyData.int PyData.int) u)] ∧ r = .dat (.bool (isR u))
theorem ok_is_ratio {P : Program} {w : World} {K : KF} {mg : Str → Option Value} {base : Heap} {k : Nat} (B : Bt mg) (D_common_divisor : Def P w K mg base k "common_divisor" (spD K 2 R_common_divisor)) (a : At K mg "is_ratio" s_is_ratio ["pair"]) : Def P w K mg base (k + 1) "is_ratio" (spD K 1 R_is_ratio) := by
  have nd := sc_is_ratio.nd
  refine a.def fun f fd F => def_ok F sc_is_ratio fun cdv A outer s H E ds r hr hl hR => ?_
  obtain ⟨u, rfl, rfl⟩ := hR
  show PSs _ _ (tS K [.dat ((eT2 PyData.int PyData.int) u), .no, .no] _)
  refine s_then (s_unpk (dv 0 rfl) (pg_tup rfl (pgs_cons (pg_name (i := 1) nd rfl (by first | exact .inl rfl | exact .inr rfl)) (pgs_cons (pg_name (i := 2) nd rfl (by first | exact .inl rfl | exact .inr rfl)) pgs_nil))) (asg_tup (asg_cons asg_name (asg_cons asg_name asg_nil)) rfl) rfl) ?_
  refine s_env (env' := [_, _, _]) rfl ?_
  exact s_last (s_ret (e_and (c_gt (dv 2 rfl) e_int).1 (fun hq => (e_one (c_eqI (e_call D_common_divisor hr (a_cons (m := true) (dv 1 rfl) (a_cons (m := true) (dv 2 rfl) (a_nil (m := true)))) rfl ⟨_, _, rfl, rfl⟩) e_int).1))) (by walk_at "RET"))
/-! ### plus -/
abbrev s_plus : Stmt := topS 8
theorem sc_plus : FnScope ["one", "two"] ["one", "two"] (defScope s_plus) := ⟨rfl, rfl, rfl, by decide +kernel, rfl, by decide +kernel, by decide +kernel⟩
def R_plus (dd : List PyData) (r : RS) : Prop := ∃ (u : (Int × Int)) (v : (Int × Int)), dd = [((eT2 PyData.int PyData.int) u), ((eT2 PyData.int PyData.int) v)] ∧ (Rb u) ∧ (Rb v) ∧ r = .dat ((eT2 PyData.int PyData.int) ((fun u v : Int × Int => ratioV (u.1 * v.2 + v.1 * u.2) (u.2 * v.2)) u v))
theorem ok_plus {P : Program} {w : World} {K : KF} {mg : Str → Option Value} {base : Heap} {k : Nat} (B : Bt mg) (D_ratio : Def P w K mg base k "ratio" (spD K 2 R_ratio)) (a : At K mg "plus" s_plus ["one", "two"]) : Def P w K mg base (k + 1) "plus" (spD K 2 R_plus) := by
  have nd := sc_plus.nd
  refine a.def fun f fd F => def_ok F sc_plus fun cdv A outer s H E ds r hr hl hR => ?_
  obtain ⟨u, v, rfl, hp1, hp2, rfl⟩ := hR
  show PSs _ _ (tS K [.dat ((eT2 PyData.int PyData.int) u), .dat ((eT2 PyData.int PyData.int) v)] _)
  exact s_last (s_ret (e_call D_ratio hr (a_cons (m := true) (e_add (e_mulS (e_ixT (dv 0 rfl) e_int rfl) (e_ixT (dv 1 rfl) e_int rfl) (by
          first | exact .inl (sm_lt hp1.1) | exact .inl (sm_lt hp1.2.1) | exact .inl (sm_lt hp2.1) | exact .inl (sm_lt hp2.2.1))) (e_mulS (e_ixT (dv 1 rfl) e_int rfl) (e_ixT (dv 0 rfl) e_int rfl) (by
          first | exact .inl (sm_lt hp1.1) | exact .inl (sm_lt hp1.2.1) | exact .inl (sm_lt hp2.1) | exact .inl (sm_lt hp2.2.1)))) (a_cons (m := true) (e_mulS (e_ixT (dv 0 rfl) e_int rfl) (e_ixT (dv 1 rfl) e_int rfl) (by
          first | exact .inl (sm_lt hp1.1) | exact .inl (sm_lt hp1.2.1) | exact .inl (sm_lt hp2.1) | exact .inl (sm_lt hp2.2.1))) (a_nil (m := true)))) rfl ⟨_, _, rfl, (by
          first | exact Int.ne_of_gt (Int.mul_pos hp1.2.2 hp2.2.2) | exact (hp1.2.1.mul hp2.2.1).up (by decide)), (by
          first | exact Int.ne_of_gt (Int.mul_pos hp1.2.2 hp2.2.2) | exact (hp1.2.1.mul hp2.2.1).up (by decide)), rfl⟩) (by walk_at "RET"))
/-! ### minus -/
abbrev s_minus : Stmt := topS 9
theorem sc_minus : FnScope ["one", "two"] ["one", "two"] (defScope s_minus) := ⟨rfl, rfl, rfl, by decide +kernel, rfl, by decide +kernel, by decide +kernel⟩
def R_minus (dd : List PyData) (r : RS) : Prop := ∃ (u : (Int × Int)) (v : (Int × Int)), dd = [((eT2 PyData.int PyData.int) u), ((eT2 PyData.int PyData.int) v)] ∧ (Rb u) ∧ (Rb v) ∧ r = .dat ((eT2 PyData.int PyData.int) ((fun u v : Int × Int => ratioV (u.1 * v.2 - v.1 * u.2) (u.2 * v.2)) u v))
theorem ok_minus {P : Program} {w : World} {K : KF} {mg : Str → Option Value} {base : Heap} {k : Nat} (B : Bt mg) (D_ratio : Def P w K mg base k "ratio" (spD K 2 R_ratio)) (a : At K mg "minus" s_minus ["one", "two"]) : Def P w K mg base (k + 1) "minus" (spD K 2 R_minus) := by
  have nd := sc_minus.nd
  refine a.def fun f fd F => def_ok F sc_minus fun cdv A outer s H E ds r hr hl hR => ?_
  obtain ⟨u, v, rfl, hp1, hp2, rfl⟩ := hR
  show PSs _ _ (tS K [.dat ((eT2 PyData.int PyData.int) u), .dat ((eT2 PyData.int PyData.int) v)] _)
  exact s_last (s_ret (e_call D_ratio hr (a_cons (m := true) (e_sub (e_mulS (e_ixT (dv 0 rfl) e_int rfl) (e_ixT (dv 1 rfl) e_int rfl) (by
          first | exact .inl (sm_lt hp1.1) | exact .inl (sm_lt hp1.2.1) | exact .inl (sm_lt hp2.1) | exact .inl (sm_lt hp2.2.1))) (e_mulS (e_ixT (dv 1 rfl) e_int rfl) (e_ixT (dv 0 rfl) e_int rfl) (by
          first | exact .inl (sm_lt hp1.1) | exact .inl (sm_lt hp1.2.1) | exact .inl (sm_lt hp2.1) | exact .inl (sm_lt hp2.2.1)))) (a_cons (m := true) (e_mulS (e_ixT (dv 0 rfl) e_int rfl) (e_ixT (dv 1 rfl) e_int rfl) (by
          first | exact .inl (sm_lt hp1.1) | exact .inl (sm_lt hp1.2.1) | exact .inl (sm_lt hp2.1) | exact .inl (sm_lt hp2.2.1))) (a_nil (m := true)))) rfl ⟨_, _, rfl, (by
          first | exact Int.ne_of_gt (Int.mul_pos hp1.2.2 hp2.2.2) | exact (hp1.2.1.mul hp2.2.1).up (by decide)), (by
          first | exact Int.ne_of_gt (Int.mul_pos hp1.2.2 hp2.2.2) | exact (hp1.2.1.mul hp2.2.1).up (by decide)), rfl⟩) (by walk_at "RET"))
/-! ### times -/
abbrev s_times : Stmt := topS 10
theorem sc_times : FnScope ["one", "two"] ["one", "two"] (defScope s_times) := ⟨rfl, rfl, rfl, by decide +kernel, rfl, by decide +kernel, by decide +kernel⟩
def R_times (dd : List PyData) (r : RS) : Prop := ∃ (u : (Int × Int)) (v : (Int × Int)), dd = [((eT2 PyData.int PyData.int) u), ((eT2 PyData.int PyData.int) v)] ∧ (Rb u) ∧ (Rb v) ∧ r = .dat ((eT2 PyData.int PyData.int) ((fun u v : Int × Int => ratioV (u.1 * v.1) (u.2 * v.2)) u v))
theorem ok_times {P : Program} {w : World} {K : KF} {mg : Str → Option Value} {base : Heap} {k : Nat} (B : Bt mg) (D_ratio : Def P w K mg base k "ratio" (spD K 2 R_ratio)) (a : At K mg "times" s_times ["one", "two"]) : Def P w K mg base (k + 1) "times" (spD K 2 R_times) := by
  have nd := sc_times.nd
  refine a.def fun f fd F => def_ok F sc_times fun cdv A outer s H E ds r hr hl hR => ?_
  obtain ⟨u, v, rfl, hp1, hp2, rfl⟩ := hR
  show PSs _ _ (tS K [.dat ((eT2 PyData.int PyData.int) u), .dat ((eT2 PyData.int PyData.int) v)] _)
  exact s_last (s_ret (e_call D_ratio hr (a_cons (m := true) (e_mulS (e_ixT (dv 0 rfl) e_int rfl) (e_ixT (dv 1 rfl) e_int rfl) (by
          first | exact .inl (sm_lt hp1.1) | exact .inl (sm_lt hp1.2.1) | exact .inl (sm_lt hp2.1) | exact .inl (sm_lt hp2.2.1))) (a_cons (m := true) (e_mulS (e_ixT (dv 0 rfl) e_int rfl) (e_ixT (dv 1 rfl) e_int rfl) (by
          first | exact .inl (sm_lt hp1.1) | exact .inl (sm_lt hp1.2.1) | exact .inl (sm_lt hp2.1) | exact .inl (sm_lt hp2.2.1))) (a_nil (m := true)))) rfl ⟨_, _, rfl, (by
          first | exact Int.ne_of_gt (Int.mul_pos hp1.2.2 hp2.2.2) | exact (hp1.2.1.mul hp2.2.1).up (by decide)), (by
          first | exact Int.ne_of_gt (Int.mul_pos hp1.2.2 hp2.2.2) | exact (hp1.2.1.mul hp2.2.1).up (by decide)), rfl⟩) (by walk_at "RET"))
/-! ### over -/
abbrev s_over : Stmt := topS 11
theorem sc_over : FnScope ["one", "two"] ["one", "two"] (defScope s_over) := ⟨rfl, rfl, rfl, by decide +kernel, rfl, by decide +kernel, by decide +kernel⟩
def R_over (dd : List PyData) (r : RS) : Prop := ∃ (u : (Int × Int)) (v : (Int × Int)), dd = [((eT2 PyData.int PyData.int) u), ((eT2 PyData.int PyData.int) v)] ∧ (Rb u) ∧ (Rb v) ∧ (v.1 ≠ 0) ∧ r = .dat ((eT2 PyData.int PyData.int) ((fun u v : Int × Int => ratioV (u.1 * v.2) (u.2 * v.1)) u v))
theorem ok_over {P : Program} {w : World} {K : KF} {mg : Str → Option Value} {base : Heap} {k : Nat} (B : Bt mg) (D_ratio : Def P w K mg base k "ratio" (spD K 2 R_ratio)) (a : At K mg "over" s_over ["one", "two"]) : Def P w K mg base (k + 1) "over" (spD K 2 R_over) := by
  have nd := sc_over.nd
  refine a.def fun f fd F => def_ok F sc_over fun cdv A outer s H E ds r hr hl hR => ?_
  obtain ⟨u, v, rfl, hp1, hp2, hp3, rfl⟩ := hR
  show PSs _ _ (tS K [.dat ((eT2 PyData.int PyData.int) u), .dat ((eT2 PyData.int PyData.int) v)] _)
  refine c_ifF (c_eqI (m := true) (e_ixT (dv 1 rfl) e_int rfl) e_int).2 ?_ ?_
  · exact decide_eq_false hp3
  exact s_last (s_ret (e_call D_ratio hr (a_cons (m := true) (e_mulS (e_ixT (dv 0 rfl) e_int rfl) (e_ixT (dv 1 rfl) e_int rfl) (by
          first | exact .inl (sm_lt hp1.1) | exact .inl (sm_lt hp1.2.1) | exact .inl (sm_lt hp2.1) | exact .inl (sm_lt hp2.2.1))) (a_cons (m := true) (e_mulS (e_ixT (dv 0 rfl) e_int rfl) (e_ixT (dv 1 rfl) e_int rfl) (by
          first | exact .inl (sm_lt hp1.1) | exact .inl (sm_lt hp1.2.1) | exact .inl (sm_lt hp2.1) | exact .inl (sm_lt hp2.2.1))) (a_nil (m := true)))) rfl ⟨_, _, rfl, (by
          first | exact Int.mul_ne_zero (Int.ne_of_gt hp1.2.2) hp3 | exact (hp1.2.1.mul hp2.1).up (by decide)), (by
          first | exact Int.mul_ne_zero (Int.ne_of_gt hp1.2.2) hp3 | exact (hp1.2.1.mul hp2.1).up (by decide)), rfl⟩) (by walk_at "RET"))
/-! ### _law_draws -/
abbrev s__law_draws : Stmt := topS 13
theorem sc__law_draws : FnScope ["script", "draws", "k", "rest", "turn", "mixed"] ["script"] (defScope s__law_draws) := ⟨rfl, rfl, rfl, by decide +kernel, rfl, by decide +kernel, by decide +kernel⟩
def R__law_draws (ns : List Int) (r : RS) : Prop := r = .own (dI (draws ns))
theorem ok__law_draws {P : Program} {w : World} {K : KF} {mg : Str → Option Value} {base : Heap} {k : Nat} (B : Bt mg) (a : At K mg "_law_draws" s__law_draws ["script"]) : Def P w K mg base (k + 1) "_law_draws" (spScr K R__law_draws) := by
  have nd := sc__law_draws.nd
  refine a.def fun f fd F => def_scr F sc__law_draws rfl fun cdv A outer s H E ns r hr hR => ?_
  have hR : r = _ := hR
  subst hR
  show PSs _ _ (tS K [.scr ns, .no, .no, .no, .no, .no] _)
  refine s_then (s_setO 1 nd rfl o_nil rfl) ?_
  refine s_env (env' := [_, _, _, _, _, _]) rfl ?_
  refine c_forR (j := 2) (fun i => [(3, .no), (4, .no), (5, .no), (1, .own (dI (iter (dstep ns) [] i))), (2, .no)]) PassesOwn.never B.range (e_min2 B.min e_int (e_lenScrD 0 B.len rfl)) (by walk_at "d3") nd rfl ⟨.inr rfl, ⟨.inr (by
          walk_at "start"), ⟨.inl rfl, ⟨.inl rfl, ⟨.inl rfl, ⟨.inl rfl, trivial⟩⟩⟩⟩⟩⟩ (fun i1 hi1 => ?_) ?_
  · have h63 : i1 < 63 ∧ i1 < ns.length := by split at hi1 <;> omega
    have hl1 := ds_len ns i1
    refine s_env (env' := [_, _, _, _, _, _]) rfl ?_
    refine s_then (s_set 3 nd rfl (e_abs B.abs (e_ixScrD 0 rfl (dv 2 rfl) (by walk_at "d3"))) rfl) ?_
    refine s_env (env' := [_, _, _, _, _, _]) rfl ?_
    refine s_fork (s_if (c_ge (m := true) (dv 3 rfl) (e_pow e_int e_int (by walk_at "d3"))).2 (fun hb42 => ?_) (fun hb42 => ?_))
    · walk_at "hb"
      refine c_forR (j := 4) (fun i => [(3, .dat (.int (iter dg (iter (dstep ns) [] i1, absI (ns.getD i1 0)) i).2)), (1, .own (dI (iter dg (iter (dstep ns) [] i1, absI (ns.getD i1 0)) i).1)), (4, .no)]) PassesOwn.never B.range e_int (by walk_at "d3") nd rfl ⟨.inr rfl, ⟨.inr (by
              walk_at "start"), ⟨.inr rfl, ⟨.inr (by
              walk_at "start"), ⟨.inl rfl, ⟨.inr rfl, trivial⟩⟩⟩⟩⟩⟩ (fun i2 hi2 => ?_) ?_
      · have hl2 := dg_len (iter (dstep ns) [] i1, absI (ns.getD i1 0)) i2
        simp only at hl2
        refine s_env (env' := [_, _, _, _, _, _]) rfl ?_
        refine s_fork (s_if (c_gt (m := true) (dv 3 rfl) e_int).2 (fun hb44 => ?_) (fun hb44 => ?_))
        · walk_at "hb"
          refine s_then (s_appG (enc := PyData.int) 1 rfl (e_mod (e_intI B.int (dv 3 rfl)) e_int (by walk_at "d3")) (by walk_at "app") rfl) ?_
          refine s_env (env' := [_, _, _, _, _, _]) rfl ?_
          refine s_then (s_set 3 nd rfl (e_fdiv (dv 3 rfl) e_int (by walk_at "d3")) rfl) ?_
          refine s_env (env' := [_, _, _, _, _, _]) rfl ?_
          refine s_nil ?_
          refine s_nil ⟨.inr rfl, ⟨.inr (by
                  rw [iter_succ, dg]
                  simp only [decide_eq_true_eq, decide_eq_false_iff_not] at hb44
                  first | (rw [if_pos hb44]; done) | (rw [if_neg hb44]; done) | (rw [if_pos hb44]; rfl)), ⟨.inr rfl, ⟨.inr (by
                  rw [iter_succ, dg]
                  simp only [decide_eq_true_eq, decide_eq_false_iff_not] at hb44
                  first | (rw [if_pos hb44]; done) | (rw [if_neg hb44]; done) | (rw [if_pos hb44]; rfl)), ⟨.inl rfl, ⟨.inr rfl, trivial⟩⟩⟩⟩⟩⟩
        · walk_at "hb"
          refine s_nil ?_
          refine s_nil ⟨.inr rfl, ⟨.inr (by
                  rw [iter_succ, dg]
                  simp only [decide_eq_true_eq, decide_eq_false_iff_not] at hb44
                  first | (rw [if_pos hb44]; done) | (rw [if_neg hb44]; done) | (rw [if_pos hb44]; rfl)), ⟨.inr rfl, ⟨.inr (by
                  rw [iter_succ, dg]
                  simp only [decide_eq_true_eq, decide_eq_false_iff_not] at hb44
                  first | (rw [if_pos hb44]; done) | (rw [if_neg hb44]; done) | (rw [if_pos hb44]; rfl)), ⟨.inl rfl, ⟨.inr rfl, trivial⟩⟩⟩⟩⟩⟩
      refine s_env (env' := [_, _, _, _, _, _]) rfl ?_
      refine s_nil ?_
      refine s_nil ⟨.inr rfl, ⟨.inr (by
              rw [iter_succ, dstep]
              simp only [decide_eq_true_eq, decide_eq_false_iff_not] at hb42
              first | (rw [if_pos (show 10 ^ (18 : Int).toNat ≤ absI (ns.getD i1 0) from hb42)]; rfl) | (rw [if_neg (show ¬ 10 ^ (18 : Int).toNat ≤ absI (ns.getD i1 0) from hb42)]; rfl)), ⟨.inl rfl, ⟨.inl rfl, ⟨.inl rfl, ⟨.inl rfl, trivial⟩⟩⟩⟩⟩⟩
    · walk_at "hb"
      refine s_then (s_set 5 nd rfl (e_mod (e_intI B.int (e_add (e_mulS (dv 3 rfl) e_int (by walk_at "mulS")) (e_mulS (e_add (dv 2 rfl) e_int) e_int (by walk_at "mulS")))) e_int (by walk_at "d3")) rfl) ?_
      refine s_env (env' := [_, _, _, _, _, _]) rfl ?_
      refine s_then (s_set 5 nd rfl (e_mod (e_intI B.int (e_add (e_add (e_mulS (dv 5 rfl) e_int (by walk_at "mulS")) (e_mulS e_int (dv 2 rfl) (by walk_at "mulS"))) e_int)) e_int (by walk_at "d3")) rfl) ?_
      refine s_env (env' := [_, _, _, _, _, _]) rfl ?_
      refine s_then (s_appG (enc := PyData.int) 1 rfl (e_mod (e_intI B.int (dv 5 rfl)) e_int (by walk_at "d3")) (by walk_at "app") rfl) ?_
      refine s_env (env' := [_, _, _, _, _, _]) rfl ?_
      refine s_then (s_appG (enc := PyData.int) 1 rfl (e_mod (e_intI B.int (e_fdiv (dv 5 rfl) e_int (by walk_at "d3"))) e_int (by walk_at "d3")) (by walk_at "app") rfl) ?_
      refine s_env (env' := [_, _, _, _, _, _]) rfl ?_
      refine s_nil ?_
      refine s_nil ⟨.inr rfl, ⟨.inr (by
              rw [iter_succ, dstep]
              simp only [decide_eq_true_eq, decide_eq_false_iff_not] at hb42
              first | (rw [if_pos (show 10 ^ (18 : Int).toNat ≤ absI (ns.getD i1 0) from hb42)]; rfl) | (rw [if_neg (show ¬ 10 ^ (18 : Int).toNat ≤ absI (ns.getD i1 0) from hb42)]; rfl)), ⟨.inl rfl, ⟨.inl rfl, ⟨.inl rfl, ⟨.inl rfl, trivial⟩⟩⟩⟩⟩⟩
  refine s_env (env' := [_, _, _, _, _, _]) rfl ?_
  exact s_last (s_retV 1 rfl (by first | exact .inl rfl | exact .inr (.inl rfl)) rfl (by walk_at "RET"))
/-! ### _law_mix -/
abbrev s__law_mix : Stmt := topS 14
theorem sc__law_mix : FnScope ["draws", "k", "many", "value"] ["draws", "k", "many"] (defScope s__law_mix) := ⟨rfl, rfl, rfl, by decide +kernel, rfl, by decide +kernel, by decide +kernel⟩
def R__law_mix (dd : List PyData) (r : RS) : Prop := ∃ (ds : (List Int)) (u : Int) (v : Int), dd = [((eL PyData.int) ds), (.int u), (.int v)] ∧ (0 < v) ∧ r = .dat (.int (mix ds u v))
theorem ok__law_mix {P : Program} {w : World} {K : KF} {mg : Str → Option Value} {base : Heap} {k : Nat} (B : Bt mg) (a : At K mg "_law_mix" s__law_mix ["draws", "k", "many"]) : Def P w K mg base (k + 1) "_law_mix" (spD K 3 R__law_mix) := by
  have nd := sc__law_mix.nd
  refine a.def fun f fd F => def_ok F sc__law_mix fun cdv A outer s H E ds r hr hl hR => ?_
  obtain ⟨ds, u, v, rfl, hp1, rfl⟩ := hR
  show PSs _ _ (tS K [.dat ((eL PyData.int) ds), .dat (.int u), .dat (.int v), .no] _)
  refine s_then (s_set 3 nd rfl e_int rfl) ?_
  refine s_env (env' := [_, _, _, _]) rfl ?_
  refine s_fork (s_if (c_gt (m := true) (e_lenG (enc := PyData.int) B.len (l_e (dv 0 rfl))) e_int).2 (fun hb55 => ?_) (fun hb55 => ?_))
  · walk_at "hb"
    refine s_then (s_set 3 nd rfl (e_ixI (l_e (dv 0 rfl)) (e_mod (e_intI B.int (dv 1 rfl)) (e_lenG (enc := PyData.int) B.len (l_e (dv 0 rfl))) (by walk_at "d3")) (by
            have h := of_decide_eq_true hb55; exact ⟨Int.emod_nonneg _ (by omega), Int.emod_lt_of_pos _ h⟩)) rfl) ?_
    refine s_env (env' := [_, _, _, _]) rfl ?_
    refine s_nil ?_
    refine s_fork (s_if (c_lt (m := true) (dv 1 rfl) (e_lenG (enc := PyData.int) B.len (l_e (dv 0 rfl)))).2 (fun hb57 => ?_) (fun hb57 => ?_))
    · walk_at "hb"
      exact s_last (s_ret (e_mod (e_intI B.int (dv 3 rfl)) (dv 2 rfl) (by walk_at "d3")) (by
              unfold mix mixV
              walk_at "IFS"))
    · walk_at "hb"
      refine s_nil ?_
      exact s_last (s_ret (e_mod (e_intI B.int (e_fdiv (e_intI B.int (e_add (e_mulS (dv 3 rfl) e_int (by walk_at "mulS")) (e_mulS (dv 1 rfl) e_int (by walk_at "mulS")))) e_int (by walk_at "d3"))) (dv 2 rfl) (by walk_at "d3")) (by
              unfold mix mixV
              walk_at "IFS"))
  · walk_at "hb"
    refine s_nil ?_
    refine s_fork (s_if (c_lt (m := true) (dv 1 rfl) (e_lenG (enc := PyData.int) B.len (l_e (dv 0 rfl)))).2 (fun hb57 => ?_) (fun hb57 => ?_))
    · walk_at "hb"
      exact s_last (s_ret (e_mod (e_intI B.int (dv 3 rfl)) (dv 2 rfl) (by walk_at "d3")) (by
              unfold mix mixV
              walk_at "IFS"))
    · walk_at "hb"
      refine s_nil ?_
      exact s_last (s_ret (e_mod (e_intI B.int (e_fdiv (e_intI B.int (e_add (e_mulS (dv 3 rfl) e_int (by walk_at "mulS")) (e_mulS (dv 1 rfl) e_int (by walk_at "mulS")))) e_int (by walk_at "d3"))) (dv 2 rfl) (by walk_at "d3")) (by
              unfold mix mixV
              walk_at "IFS"))
/-! ### _law_common -/
abbrev s__law_common : Stmt := topS 15
theorem sc__law_common : FnScope ["one", "two", "turn", "rest"] ["one", "two"] (defScope s__law_common) := ⟨rfl, rfl, rfl, by decide +kernel, rfl, by decide +kernel, by decide +kernel⟩
def R__law_common (dd : List PyData) (r : RS) : Prop := ∃ (u : Int) (v : Int), dd = [(.int u), (.int v)] ∧ (Sm 9000 v) ∧ r = .dat (.int ((fun u v : Int => (Int.gcd u v : Int)) u v))
theorem ok__law_common {P : Program} {w : World} {K : KF} {mg : Str → Option Value} {base : Heap} {k : Nat} (B : Bt mg) (a : At K mg "_law_common" s__law_common ["one", "two"]) : Def P w K mg base (k + 1) "_law_common" (spD K 2 R__law_common) := by
  have nd := sc__law_common.nd
  refine a.def fun f fd F => def_ok F sc__law_common fun cdv A outer s H E ds r hr hl hR => ?_
  obtain ⟨u, v, rfl, hp1, rfl⟩ := hR
  show PSs _ _ (tS K [.dat (.int u), .dat (.int v), .no, .no] _)
  refine s_then (s_set 0 nd rfl (e_abs B.abs (dv 0 rfl)) rfl) ?_
  refine s_env (env' := [_, _, _, _]) rfl ?_
  refine s_then (s_set 1 nd rfl (e_abs B.abs (dv 1 rfl)) rfl) ?_
  refine s_env (env' := [_, _, _, _]) rfl ?_
  refine c_forR (j := 2) (fun i => [(3, .no), (0, .dat (.int ((iter eu (u.natAbs, v.natAbs) i).1 : Int))), (1, .dat (.int ((iter eu (u.natAbs, v.natAbs) i).2 : Int))), (2, .no)]) PassesOwn.never B.range e_int (by walk_at "d3") nd rfl ⟨.inr (by
          first | (rw [abs_nat]; done) | (rw [abs_nat]; rfl)), ⟨.inr (by
          first | (rw [abs_nat]; done) | (rw [abs_nat]; rfl)), ⟨.inl rfl, ⟨.inl rfl, trivial⟩⟩⟩⟩ (fun i1 hi1 => ?_) ?_
  · skip
    refine s_env (env' := [_, _, _, _]) rfl ?_
    refine s_fork (s_if (c_eqI (m := true) (dv 1 rfl) e_int).2 (fun hb64 => ?_) (fun hb64 => ?_))
    · walk_at "hb"
      exact s_last (s_ret (dv 0 rfl) (by
              first | (rw [hgd]; done) | (rw [hgd]; rfl) | (have h := eu_done (s := (u.natAbs, v.natAbs)) (i := i1) (by have h := of_decide_eq_true hb64; omega); rw [h]; done) | (have h := eu_done (s := (u.natAbs, v.natAbs)) (i := i1) (by have h := of_decide_eq_true hb64; omega); rw [h]; rfl)))
    · walk_at "hb"
      refine s_nil ?_
      refine s_then (s_set 3 nd rfl (e_mod (e_intI B.int (dv 0 rfl)) (dv 1 rfl) (by walk_at "d3")) rfl) ?_
      refine s_env (env' := [_, _, _, _]) rfl ?_
      refine s_then (s_set 0 nd rfl (dv 1 rfl) rfl) ?_
      refine s_env (env' := [_, _, _, _]) rfl ?_
      refine s_then (s_set 1 nd rfl (dv 3 rfl) rfl) ?_
      refine s_env (env' := [_, _, _, _]) rfl ?_
      refine s_nil ⟨.inr (by
              rw [iter_succ]
              have hne : ¬ (iter eu (u.natAbs, v.natAbs) i1).2 = 0 := by have h := of_decide_eq_false hb64; omega
              generalize iter eu (u.natAbs, v.natAbs) i1 = z at hne ⊢; first | (rw [eu, if_neg hne]; done) | (rw [eu, if_neg hne]; rfl)), ⟨.inr (by
              rw [iter_succ]
              have hne : ¬ (iter eu (u.natAbs, v.natAbs) i1).2 = 0 := by have h := of_decide_eq_false hb64; omega
              generalize iter eu (u.natAbs, v.natAbs) i1 = z at hne ⊢; first | (rw [eu, if_neg hne]; done) | (rw [eu, if_neg hne]; rfl)), ⟨.inl rfl, ⟨.inl rfl, trivial⟩⟩⟩⟩
  refine s_env (env' := [_, _, _, _]) rfl ?_
  have hgd := eu_end u.natAbs v.natAbs 9000 (20000 : Int).toNat hp1 (by decide)
  exact s_last (s_ret (dv 0 rfl) (by
          first | (rw [hgd]; done) | (rw [hgd]; rfl) | (have h := eu_done (s := (u.natAbs, v.natAbs)) (i := i1) (by have h := of_decide_eq_true hb64; omega); rw [h]; done) | (have h := eu_done (s := (u.natAbs, v.natAbs)) (i := i1) (by have h := of_decide_eq_true hb64; omega); rw [h]; rfl)))
/-! ### _law_ratio -/
abbrev s__law_ratio : Stmt := topS 16
theorem sc__law_ratio : FnScope ["n", "d", "common"] ["n", "d"] (defScope s__law_ratio) := ⟨rfl, rfl, rfl, by decide +kernel, rfl, by decide +kernel, by decide +kernel⟩
def R__law_ratio (dd : List PyData) (r : RS) : Prop := ∃ (u : Int) (v : Int), dd = [(.int u), (.int v)] ∧ (v ≠ 0) ∧ (Sm 2000 v) ∧ r = .dat ((eT2 PyData.int PyData.int) (ratioV u v))
theorem ok__law_ratio {P : Program} {w : World} {K : KF} {mg : Str → Option Value} {base : Heap} {k : Nat} (B : Bt mg) (D__law_common : Def P w K mg base k "_law_common" (spD K 2 R__law_common)) (a : At K mg "_law_ratio" s__law_ratio ["n", "d"]) : Def P w K mg base (k + 1) "_law_ratio" (spD K 2 R__law_ratio) := by
  have nd := sc__law_ratio.nd
  refine a.def fun f fd F => def_ok F sc__law_ratio fun cdv A outer s H E ds r hr hl hR => ?_
  obtain ⟨u, v, rfl, hp1, hp2, rfl⟩ := hR
  show PSs _ _ (tS K [.dat (.int u), .dat (.int v), .no] _)
  refine s_then (s_set 2 nd rfl (e_call D__law_common hr (a_cons (m := true) (dv 0 rfl) (a_cons (m := true) (dv 1 rfl) (a_nil (m := true)))) rfl ⟨_, _, rfl, (by
          exact hp2.up (by decide)), rfl⟩) rfl) ?_
  refine s_env (env' := [_, _, _]) rfl ?_
  refine s_fork (s_if (c_lt (m := true) (dv 1 rfl) e_int).2 (fun hb72 => ?_) (fun hb72 => ?_))
  · walk_at "hb"
    refine s_then (s_set 2 nd rfl (e_neg (dv 2 rfl)) rfl) ?_
    refine s_env (env' := [_, _, _]) rfl ?_
    refine s_nil ?_
    exact s_last (s_ret (e_tup2 (f := PyData.int) (g := PyData.int) (e_fdivZ (dv 0 rfl) (dv 2 rfl) (by
            first | exact (gcd_div hp1 hp2).1 | exact (gcd_div hp1 hp2).2)) (e_fdivZ (dv 1 rfl) (dv 2 rfl) (by
            first | exact (gcd_div hp1 hp2).1 | exact (gcd_div hp1 hp2).2))) (by
            unfold ratioV cm
            walk_at "IFS"))
  · walk_at "hb"
    refine s_nil ?_
    exact s_last (s_ret (e_tup2 (f := PyData.int) (g := PyData.int) (e_fdivZ (dv 0 rfl) (dv 2 rfl) (by
            first | exact (gcd_div hp1 hp2).1 | exact (gcd_div hp1 hp2).2)) (e_fdivZ (dv 1 rfl) (dv 2 rfl) (by
            first | exact (gcd_div hp1 hp2).1 | exact (gcd_div hp1 hp2).2))) (by
            unfold ratioV cm
            walk_at "IFS"))
/-! ### _law_drawn_ratio -/
abbrev s__law_drawn_ratio : Stmt := topS 17
theorem sc__law_drawn_ratio : FnScope ["draws", "k", "top", "n"] ["draws", "k"] (defScope s__law_drawn_ratio) := ⟨rfl, rfl, rfl, by decide +kernel, rfl, by decide +kernel, by decide +kernel⟩
def R__law_drawn_ratio (dd : List PyData) (r : RS) : Prop := ∃ (ds : (List Int)) (u : Int), dd = [((eL PyData.int) ds), (.int u)] ∧ r = .dat ((eT2 PyData.int PyData.int) (drawnR ds u))
theorem ok__law_drawn_ratio {P : Program} {w : World} {K : KF} {mg : Str → Option Value} {base : Heap} {k : Nat} (B : Bt mg) (D__law_ratio : Def P w K mg base k "_law_ratio" (spD K 2 R__law_ratio)) (D__law_mix : Def P w K mg base k "_law_mix" (spD K 3 R__law_mix)) (a : At K mg "_law_drawn_ratio" s__law_drawn_ratio ["draws", "k"]) : Def P w K mg base (k + 1) "_law_drawn_ratio" (spD K 2 R__law_drawn_ratio) := by
  have nd := sc__law_drawn_ratio.nd
  refine a.def fun f fd F => def_ok F sc__law_drawn_ratio fun cdv A outer s H E ds r hr hl hR => ?_
  obtain ⟨ds, u, rfl, rfl⟩ := hR
  have h1 := mix_bd ds u 3 (by decide)
  have h2 := mix_bd ds (u + 3) 2 (by decide)
  have h3 := dTop_bd ds u
  have h4 := dSel_bd ds u
  have h5 := dDen_bd ds u
  have h6 : Sm 2000 (dDen ds u) := (Sm.of (n := 24) (b := 1000001) (by omega) (by decide)).up (by decide)
  show PSs _ _ (tS K [.dat ((eL PyData.int) ds), .dat (.int u), .no, .no] _)
  refine s_then (s_set 2 nd rfl (e_ixI (l_o (o_list (a_consG (enc := PyData.int) e_int (a_consG (enc := PyData.int) e_int (a_consG (enc := PyData.int) e_int (a_nilG (enc := PyData.int))))) (by walk_at "len"))) (e_call D__law_mix hr (a_cons (m := true) (dv 0 rfl) (a_cons (m := true) (dv 1 rfl) (a_cons (m := true) e_int (a_nil (m := true))))) rfl ⟨_, _, _, rfl, (by
          first | decide | (show 0 < 2 * dTop ds u + 1; omega) | (show 0 < dSel ds u; omega) | (show dDen ds u ≠ 0; omega) | exact h6), rfl⟩) (by
          first | (show 0 ≤ mix ds u 3 ∧ mix ds u 3 < ((3 : Nat) : Int); omega) | (show 0 ≤ mix ds (u + 3) 2 ∧ mix ds (u + 3) 2 < ((2 : Nat) : Int); omega))) rfl) ?_
  refine s_env (env' := [_, _, _, _]) rfl ?_
  refine s_then (s_set 3 nd rfl (e_sub (e_call D__law_mix hr (a_cons (m := true) (dv 0 rfl) (a_cons (m := true) (e_add (dv 1 rfl) e_int) (a_cons (m := true) (e_add (e_mulS e_int (dv 2 rfl) (by walk_at "mulS")) e_int) (a_nil (m := true))))) rfl ⟨_, _, _, rfl, (by
          first | decide | (show 0 < 2 * dTop ds u + 1; omega) | (show 0 < dSel ds u; omega) | (show dDen ds u ≠ 0; omega) | exact h6), rfl⟩) (dv 2 rfl)) rfl) ?_
  refine s_env (env' := [_, _, _, _]) rfl ?_
  exact s_last (s_ret (e_call D__law_ratio hr (a_cons (m := true) (dv 3 rfl) (a_cons (m := true) (e_add e_int (e_call D__law_mix hr (a_cons (m := true) (dv 0 rfl) (a_cons (m := true) (e_add (dv 1 rfl) e_int) (a_cons (m := true) (e_ixI (l_o (o_list (a_consG (enc := PyData.int) e_int (a_consG (enc := PyData.int) (dv 2 rfl) (a_nilG (enc := PyData.int)))) (by walk_at "len"))) (e_call D__law_mix hr (a_cons (m := true) (dv 0 rfl) (a_cons (m := true) (e_add (dv 1 rfl) e_int) (a_cons (m := true) e_int (a_nil (m := true))))) rfl ⟨_, _, _, rfl, (by
          first | decide | (show 0 < 2 * dTop ds u + 1; omega) | (show 0 < dSel ds u; omega) | (show dDen ds u ≠ 0; omega) | exact h6), rfl⟩) (by
          first | (show 0 ≤ mix ds u 3 ∧ mix ds u 3 < ((3 : Nat) : Int); omega) | (show 0 ≤ mix ds (u + 3) 2 ∧ mix ds (u + 3) 2 < ((2 : Nat) : Int); omega))) (a_nil (m := true))))) rfl ⟨_, _, _, rfl, (by
          first | decide | (show 0 < 2 * dTop ds u + 1; omega) | (show 0 < dSel ds u; omega) | (show dDen ds u ≠ 0; omega) | exact h6), rfl⟩)) (a_nil (m := true)))) rfl ⟨_, _, rfl, (by
          first | decide | (show 0 < 2 * dTop ds u + 1; omega) | (show 0 < dSel ds u; omega) | (show dDen ds u ≠ 0; omega) | exact h6), (by
          first | decide | (show 0 < 2 * dTop ds u + 1; omega) | (show 0 < dSel ds u; omega) | (show dDen ds u ≠ 0; omega) | exact h6), rfl⟩) (by walk_at "RET"))
/-! ### _law_is_integer -/
abbrev s__law_is_integer : Stmt := topS 18
theorem sc__law_is_integer : FnScope ["actual"] ["actual"] (defScope s__law_is_integer) := ⟨rfl, rfl, rfl, by decide +kernel, rfl, by decide +kernel, by decide +kernel⟩
def R__law_is_integer (dd : List PyData) (r : RS) : Prop := ∃ (u : Int), dd = [(.int u)] ∧ r = .dat (.bool ((fun _ : Int => true) u))
theorem ok__law_is_integer {P : Program} {w : World} {K : KF} {mg : Str → Option Value} {base : Heap} {k : Nat} (B : Bt mg) (a : At K mg "_law_is_integer" s__law_is_integer ["actual"]) : Def P w K mg base (k + 1) "_law_is_integer" (spD K 1 R__law_is_integer) := by
  have nd := sc__law_is_integer.nd
  refine a.def fun f fd F => def_ok F sc__law_is_integer fun cdv A outer s H E ds r hr hl hR => ?_
  obtain ⟨u, rfl, rfl⟩ := hR
  show PSs _ _ (tS K [.dat (.int u)] _)
  exact s_last (s_ret (e_and (e_isi B.isinstance (m1 := true) (dv 0 rfl) (ty_int B.int) isi_int_int) (fun hq => (e_one (e_not (e_isi B.isinstance (m1 := true) (dv 0 rfl) (ty_bool B.bool) isi_int_bool))))) (by walk_at "RET"))
/-! ### ratio raises -/
def RX_ratio (K : KF) (W : WX) (dd : List PyData) (r : RS) : Prop := ∃ (u : Int) (v : Int), ∃ q : Str × Int, dd = [(.int u), (.int v)] ∧ (v = 0) ∧ (some ("NoRatio", u) : Err) = some q ∧ r = .exc (He.ga K q.1) (.int q.2) (fun _ => True) W
theorem ex_ratio {P : Program} {w : World} {K : KF} {mg : Str → Option Value} {base : Heap} {k : Nat} (B : Bt mg) (ER : Er P w K mg base XS) (a : At K mg "ratio" s_ratio ["n", "d"]) : DefX P w K mg base (k + 3) "ratio" (spX K 2 (RX_ratio K)) := by
  have nd := sc_ratio.nd
  refine a.defX fun f fd F => def_okX F sc_ratio fun cdv A outer s H E ds r hr hl hR tk hpo => ?_
  obtain ⟨u, v, q, rfl, hp1, hq0, rfl⟩ := hR
  show PSs _ _ (tS K [.dat (.int u), .dat (.int v), .no] _)
  refine c_ifT (c_eqI (m := true) (dv 1 rfl) e_int).2 ?_ ?_
  · exact decide_eq_true hp1
  exact s_stop (s_raise ER (x := "NoRatio") (ep := fun _ => True) (by decide) (hr.mono (by omega)) tk (dv 0 rfl) trivial (by
          cases hq0; rfl))
/-! ### over raises -/
def RX_over (K : KF) (W : WX) (dd : List PyData) (r : RS) : Prop := ∃ (u : (Int × Int)) (v : (Int × Int)), ∃ q : Str × Int, dd = [((eT2 PyData.int PyData.int) u), ((eT2 PyData.int PyData.int) v)] ∧ (v.1 = 0) ∧ (some ("NoRatio", 0) : Err) = some q ∧ r = .exc (He.ga K q.1) (.int q.2) (fun _ => True) W
theorem ex_over {P : Program} {w : World} {K : KF} {mg : Str → Option Value} {base : Heap} {k : Nat} (B : Bt mg) (ER : Er P w K mg base XS) (a : At K mg "over" s_over ["one", "two"]) : DefX P w K mg base (k + 3) "over" (spX K 2 (RX_over K)) := by
  have nd := sc_over.nd
  refine a.defX fun f fd F => def_okX F sc_over fun cdv A outer s H E ds r hr hl hR tk hpo => ?_
  obtain ⟨u, v, q, rfl, hp1, hq0, rfl⟩ := hR
  show PSs _ _ (tS K [.dat ((eT2 PyData.int PyData.int) u), .dat ((eT2 PyData.int PyData.int) v)] _)
  refine c_ifT (c_eqI (m := true) (e_ixT (dv 1 rfl) e_int rfl) e_int).2 ?_ ?_
  · exact decide_eq_true hp1
  exact s_stop (s_raise ER (x := "NoRatio") (ep := fun _ => True) (by decide) (hr.mono (by omega)) tk e_int trivial (by
          cases hq0; rfl))
/-! ### _law_refused -/
abbrev s__law_refused : Stmt := topS 19
theorem sc__law_refused : FnScope ["way", "one", "two", "e"] ["way", "one", "two"] (defScope s__law_refused) := ⟨rfl, rfl, rfl, by decide +kernel, rfl, by decide +kernel, by decide +kernel⟩
def R__law_refused (dd : List PyData) (r : RS) : Prop := ∃ (u : Int) (x : PyData) (y : PyData), dd = [(.int u), x, y] ∧ ((u = 0 ∧ ∃ n, x = .int n ∧ y = .int 0) ∨ (u = 1 ∧ ∃ a b, x = .tuple [.int a, .int b] ∧ y = .tuple [.int 0, .int 1])) ∧ r = .dat ((eT2 PyData.bool PyData.int) ((fun (u : Int) (x _ : PyData) => (true, refErr u x)) u x y))
theorem ok__law_refused {P : Program} {w : World} {K : KF} {mg : Str → Option Value} {base : Heap} {k : Nat} (B : Bt mg) (ER : Er P w K mg base XS) (DX_ratio : DefX P w K mg base k "ratio" (spX K 2 (RX_ratio K))) (DX_over : DefX P w K mg base k "over" (spX K 2 (RX_over K))) (a : At K mg "_law_refused" s__law_refused ["way", "one", "two"]) : Def P w K mg base (k + 1) "_law_refused" (spD K 3 R__law_refused) := by
  have nd := sc__law_refused.nd
  refine a.def fun f fd F => def_ok F sc__law_refused fun cdv A outer s H E ds r hr hl hR => ?_
  obtain ⟨u, x, y, rfl, hp1, rfl⟩ := hR
  show PSs _ _ (tS K [.dat (.int u), .dat x, .dat y, .no] _)
  refine s_fork (s_tryE (i := 3) (r := (some ("NoRatio", refErr u x) : Err)) ER nd rfl (fun W pn xe tk hpo => ?_) (fun q a dd oe pn hq0 hq hz hf => ?_))
  · skip
    refine s_env (env' := [_, _, _, _]) rfl ?_
    refine s_fork (s_if (c_eqI (m := true) (dv 0 rfl) e_int).2 (fun hb83 => ?_) (fun hb83 => ?_))
    · walk_at "hb"
      refine s_stop (s_rexpr (ep := fun e => e = _) (r_call DX_ratio hr tk (a_cons (m := true) (dv 1 rfl) (a_cons (m := true) (dv 2 rfl) (a_nil (m := true)))) rfl ?_) rfl (.inr ⟨_, _, ⟨_, rfl, (by show ("NoRatio" : Str) ∈ XS; decide), rfl, rfl⟩, rfl⟩))
      rcases hp1 with ⟨rfl, n, rfl, rfl⟩ | ⟨rfl, a, b, rfl, rfl⟩
      · exact fun W' => ⟨n, 0, ("NoRatio", n), rfl, rfl, rfl, rfl⟩
      · simp at hb83
    · walk_at "hb"
      refine s_stop (s_rexpr (ep := fun e => e = _) (r_call DX_over hr tk (a_cons (m := true) (dv 1 rfl) (a_cons (m := true) (dv 2 rfl) (a_nil (m := true)))) rfl ?_) rfl (.inr ⟨_, _, ⟨_, rfl, (by show ("NoRatio" : Str) ∈ XS; decide), rfl, rfl⟩, rfl⟩))
      rcases hp1 with ⟨rfl, n, rfl, rfl⟩ | ⟨rfl, a, b, rfl, rfl⟩
      · simp at hb83
      · exact fun W' => ⟨(a, b), (0, 1), ("NoRatio", 0), rfl, rfl, rfl, rfl⟩
  · skip
    refine s_env (env' := [_, _, _, _]) rfl ?_
    exact s_last (s_ret (e_tup2 (f := PyData.bool) (g := PyData.int) (e_eIs 3 ER B.isinstance hq (by decide) hz hf) (e_eAt 3 ER hq hz hf)) (by
            cases hq0; simp))
/-! ### _law_is_same -/
abbrev s__law_is_same : Stmt := topS 20
theorem sc__law_is_same : FnScope ["told", "n", "d"] ["told", "n", "d"] (defScope s__law_is_same) := ⟨rfl, rfl, rfl, by decide +kernel, rfl, by decide +kernel, by decide +kernel⟩
def R__law_is_same (dd : List PyData) (r : RS) : Prop := ∃ (x : (Int × Int)) (u : Int) (v : Int), dd = [((eT2 PyData.int PyData.int) x), (.int u), (.int v)] ∧ (v ≠ 0) ∧ (Sm 2000 v) ∧ r = .dat (.bool ((fun (x : Int × Int) (u v : Int) => decide (x = ratioV u v)) x u v))
theorem ok__law_is_same {P : Program} {w : World} {K : KF} {mg : Str → Option Value} {base : Heap} {k : Nat} (B : Bt mg) (D__law_ratio : Def P w K mg base k "_law_ratio" (spD K 2 R__law_ratio)) (D__law_is_integer : Def P w K mg base k "_law_is_integer" (spD K 1 R__law_is_integer)) (a : At K mg "_law_is_same" s__law_is_same ["told", "n", "d"]) : Def P w K mg base (k + 1) "_law_is_same" (spD K 3 R__law_is_same) := by
  have nd := sc__law_is_same.nd
  refine a.def fun f fd F => def_ok F sc__law_is_same fun cdv A outer s H E ds r hr hl hR => ?_
  obtain ⟨x, u, v, rfl, hp1, hp2, rfl⟩ := hR
  show PSs _ _ (tS K [.dat ((eT2 PyData.int PyData.int) x), .dat (.int u), .dat (.int v)] _)
  refine c_ifF (t_w (w_or (t_not (t_val (e_isi B.isinstance (m1 := true) (dv 0 rfl) (ty_tuple B.tuple) isi_tuple_tuple))) (fun hq => (w_or (c_neI (m := true) (e_lenT B.len (dv 0 rfl)) e_int).2 (fun hq => (w_or (t_not (t_val (e_call D__law_is_integer hr (a_cons (m := true) (e_ixT (dv 0 rfl) e_int rfl) (a_nil (m := true))) rfl ⟨_, rfl, rfl⟩))) (fun hq => (w_one (t_not (t_val (e_call D__law_is_integer hr (a_cons (m := true) (e_ixT (dv 0 rfl) e_int rfl) (a_nil (m := true))) rfl ⟨_, rfl, rfl⟩))))))))))) ?_ ?_
  · simp
  exact s_last (s_ret (c_eqG (enc := (eT2 PyData.int PyData.int)) (m1 := true) (m2 := true) (eqT2 eqI eqI) (shT2 shI shI) (by decide) hr.units (dv 0 rfl) (e_call D__law_ratio hr (a_cons (m := true) (dv 1 rfl) (a_cons (m := true) (dv 2 rfl) (a_nil (m := true)))) rfl ⟨_, _, rfl, (by walk_at "PRE"), (by walk_at "PRE"), rfl⟩)).1 (by walk_at "RET"))
/-! ### _law_integer -/
abbrev s__law_integer : Stmt := topS 21
theorem sc__law_integer : FnScope ["draws", "k", "top"] ["draws", "k"] (defScope s__law_integer) := ⟨rfl, rfl, rfl, by decide +kernel, rfl, by decide +kernel, by decide +kernel⟩
def R__law_integer (dd : List PyData) (r : RS) : Prop := ∃ (ds : (List Int)) (u : Int), dd = [((eL PyData.int) ds), (.int u)] ∧ r = .dat (.int (integer ds u))
theorem ok__law_integer {P : Program} {w : World} {K : KF} {mg : Str → Option Value} {base : Heap} {k : Nat} (B : Bt mg) (D__law_mix : Def P w K mg base k "_law_mix" (spD K 3 R__law_mix)) (a : At K mg "_law_integer" s__law_integer ["draws", "k"]) : Def P w K mg base (k + 1) "_law_integer" (spD K 2 R__law_integer) := by
  have nd := sc__law_integer.nd
  refine a.def fun f fd F => def_ok F sc__law_integer fun cdv A outer s H E ds r hr hl hR => ?_
  obtain ⟨ds, u, rfl, rfl⟩ := hR
  have h1 := mix_bd ds u 3 (by decide)
  have h2 := top3_bd (mix_bd ds u 3 (by decide)) (a := 4) (b := 30) (c := 1000000) (by decide) (by decide) (by decide)
  show PSs _ _ (tS K [.dat ((eL PyData.int) ds), .dat (.int u), .no] _)
  refine s_then (s_set 2 nd rfl (e_ixI (l_o (o_list (a_consG (enc := PyData.int) e_int (a_consG (enc := PyData.int) e_int (a_consG (enc := PyData.int) e_int (a_nilG (enc := PyData.int))))) (by walk_at "len"))) (e_call D__law_mix hr (a_cons (m := true) (dv 0 rfl) (a_cons (m := true) (dv 1 rfl) (a_cons (m := true) e_int (a_nil (m := true))))) rfl ⟨_, _, _, rfl, (by
          first | decide | (show 0 < 2 * top3 4 30 1000000 (mix ds u 3) + 1; omega)), rfl⟩) (by
          show 0 ≤ mix ds u 3 ∧ mix ds u 3 < ((3 : Nat) : Int); omega)) rfl) ?_
  refine s_env (env' := [_, _, _]) rfl ?_
  exact s_last (s_ret (e_sub (e_call D__law_mix hr (a_cons (m := true) (dv 0 rfl) (a_cons (m := true) (e_add (dv 1 rfl) e_int) (a_cons (m := true) (e_add (e_mulS e_int (dv 2 rfl) (by walk_at "mulS")) e_int) (a_nil (m := true))))) rfl ⟨_, _, _, rfl, (by
          first | decide | (show 0 < 2 * top3 4 30 1000000 (mix ds u 3) + 1; omega)), rfl⟩) (dv 2 rfl)) (by walk_at "RET"))
/-! ### law -/
abbrev s_law : Stmt := topS 22
theorem sc_law : FnScope ["script", "draws", "turn", "n", "d", "times_both", "told", "one", "two"] ["script"] (defScope s_law) := ⟨rfl, rfl, rfl, by decide +kernel, rfl, by decide +kernel, by decide +kernel⟩
def R_law (ns : List Int) (r : RS) : Prop := ns.length ≤ 63 ∧ r = .dat (.bool true)
theorem ok_law {P : Program} {w : World} {K : KF} {mg : Str → Option Value} {base : Heap} {k : Nat} {f : Addr} {fd : FuncData} (B : Bt mg) (D__law_draws : Def P w K mg base k "_law_draws" (spScr K R__law_draws)) (D__law_integer : Def P w K mg base k "_law_integer" (spD K 2 R__law_integer)) (D__law_drawn_ratio : Def P w K mg base k "_law_drawn_ratio" (spD K 2 R__law_drawn_ratio)) (D__law_mix : Def P w K mg base k "_law_mix" (spD K 3 R__law_mix)) (D_is_ratio : Def P w K mg base k "is_ratio" (spD K 1 R_is_ratio)) (D__law_refused : Def P w K mg base k "_law_refused" (spD K 3 R__law_refused)) (D__law_is_same : Def P w K mg base k "_law_is_same" (spD K 3 R__law_is_same)) (D_plus : Def P w K mg base k "plus" (spD K 2 R_plus)) (D_minus : Def P w K mg base k "minus" (spD K 2 R_minus)) (D_times : Def P w K mg base k "times" (spD K 2 R_times)) (D__law_common : Def P w K mg base k "_law_common" (spD K 2 R__law_common)) (D_over : Def P w K mg base k "over" (spD K 2 R_over)) (D_ratio : Def P w K mg base k "ratio" (spD K 2 R_ratio)) (F : Fn K "law" "law" s_law f fd) : FnOk P w K mg base CX0 (k + 1) f fd ["script"] (spScr K R_law) := by
  have nd := sc_law.nd
  refine def_scr F sc_law rfl fun cdv A outer s H E ns r hr hR => ?_
  have hR : _ ∧ r = _ := hR
  obtain ⟨h63, rfl⟩ := hR
  show PSs _ _ (tS K [.scr ns, .no, .no, .no, .no, .no, .no, .no, .no] _)
  refine s_then (s_set 1 nd rfl (e_o (o_callScrD' 0 D__law_draws hr rfl rfl)) rfl) ?_
  refine s_env (env' := [_, _, _, _, _, _, _, _, _]) rfl ?_
  refine c_forR (j := 2) (fun i => [(3, .no), (4, .no), (5, .no), (6, .no), (2, .no)]) PassesOwn.never B.range e_int (by walk_at "d3") nd rfl ⟨.inr rfl, ⟨.inr rfl, ⟨.inl rfl, ⟨.inl rfl, ⟨.inl rfl, ⟨.inl rfl, ⟨.inl rfl, ⟨.inr rfl, ⟨.inr rfl, trivial⟩⟩⟩⟩⟩⟩⟩⟩⟩ (fun i1 hi1 => ?_) ?_
  · skip
    refine s_env (env' := [_, _, _, _, _, _, _, _, _]) rfl ?_
    refine s_then (s_set 3 nd rfl (e_call D__law_integer hr (a_cons (m := true) (dv 1 rfl) (a_cons (m := true) (e_mulS e_int (dv 2 rfl) (by
            first | exact .inr (by omega) | exact .inl (sm_lt r1.1) | exact .inl (sm_lt r1.2.1) | exact .inl (sm_lt r2.1))) (a_nil (m := true)))) rfl ⟨_, _, rfl, rfl⟩) rfl) ?_
    refine s_env (env' := [_, _, _, _, _, _, _, _, _]) rfl ?_
    refine s_then (s_set 4 nd rfl (e_call D__law_integer hr (a_cons (m := true) (dv 1 rfl) (a_cons (m := true) (e_add (e_mulS e_int (dv 2 rfl) (by
            first | exact .inr (by omega) | exact .inl (sm_lt r1.1) | exact .inl (sm_lt r1.2.1) | exact .inl (sm_lt r2.1))) e_int) (a_nil (m := true)))) rfl ⟨_, _, rfl, rfl⟩) rfl) ?_
    refine s_env (env' := [_, _, _, _, _, _, _, _, _]) rfl ?_
    refine s_then (s_set 5 nd rfl (e_add e_int (e_call D__law_mix hr (a_cons (m := true) (dv 1 rfl) (a_cons (m := true) (e_add (e_mulS e_int (dv 2 rfl) (by
            first | exact .inr (by omega) | exact .inl (sm_lt r1.1) | exact .inl (sm_lt r1.2.1) | exact .inl (sm_lt r2.1))) e_int) (a_cons (m := true) e_int (a_nil (m := true))))) rfl ⟨_, _, _, rfl, (by
            first | assumption | exact .inl ⟨rfl, _, rfl, rfl⟩ | exact .inr ⟨rfl, _, _, rfl, rfl⟩ | decide | exact sd.up (by decide) | exact (sd.neg.mul sm).up (by decide) | exact Int.ne_of_gt (Int.mul_pos r1.2.2 r2.2.2) | exact (r1.2.1.mul r2.2.1).up (by decide) | exact (r1.2.1.mul r2.1).up (by decide) | (simp at hq; exact Int.mul_ne_zero (Int.ne_of_gt r1.2.2) hq) | (simp at hq; exact hq) | (simp_all; done) | exact Int.mul_ne_zero (by simp_all) (by omega)), rfl⟩)) rfl) ?_
    refine s_env (env' := [_, _, _, _, _, _, _, _, _]) rfl ?_
    have hn := integer_bd (draws ns) (9 * (i1 : Int))
    have hd := integer_bd (draws ns) (9 * (i1 : Int) + 3)
    have hm := mix_bd (draws ns) (9 * (i1 : Int) + 6) 9 (by decide)
    generalize integer (draws ns) (9 * (i1 : Int)) = n at *
    generalize integer (draws ns) (9 * (i1 : Int) + 3) = d at *
    generalize mix (draws ns) (9 * (i1 : Int) + 6) 9 = m at *
    have sd : Sm 24 d := Sm.of (b := 1000001) hd (by decide)
    have sm : Sm 24 (1 + m) := Sm.of (b := 11) (by omega) (by decide)
    refine s_then (s_set 6 nd rfl (e_tup2 (f := PyData.bool) (g := PyData.bool) (e_call D_is_ratio hr (a_cons (m := true) (e_tup2 (f := PyData.int) (g := PyData.int) (dv 3 rfl) (dv 4 rfl)) (a_nil (m := true))) rfl ⟨_, rfl, rfl⟩) (e_call D_is_ratio hr (a_cons (m := true) (e_tup2 (f := PyData.int) (g := PyData.int) (e_mulS (dv 3 rfl) (dv 5 rfl) (by
            first | exact .inr (by omega) | exact .inl (sm_lt r1.1) | exact .inl (sm_lt r1.2.1) | exact .inl (sm_lt r2.1))) (e_mulS (dv 4 rfl) (dv 5 rfl) (by
            first | exact .inr (by omega) | exact .inl (sm_lt r1.1) | exact .inl (sm_lt r1.2.1) | exact .inl (sm_lt r2.1)))) (a_nil (m := true))) rfl ⟨_, rfl, rfl⟩)) rfl) ?_
    refine s_env (env' := [_, _, _, _, _, _, _, _, _]) rfl ?_
    refine c_ifF (t_w (w_or (t_not (t_val (e_isi B.isinstance (m1 := true) (e_ixT (dv 6 rfl) e_int rfl) (ty_bool B.bool) isi_bool_bool))) (fun hq => (w_one (t_not (t_val (e_isi B.isinstance (m1 := true) (e_ixT (dv 6 rfl) e_int rfl) (ty_bool B.bool) isi_bool_bool))))))) ?_ ?_
    · simp
    refine c_ifF (c_neG (m := true) (enc := PyData.bool) (m1 := true) (m2 := true) eqB shB (by decide) hr.units (e_ixT (dv 6 rfl) e_int rfl) (e_and (c_gt (dv 4 rfl) e_int).1 (fun hq => (e_one (c_eqI (e_call D__law_common hr (a_cons (m := true) (dv 3 rfl) (a_cons (m := true) (dv 4 rfl) (a_nil (m := true)))) rfl ⟨_, _, rfl, (by
            first | assumption | exact .inl ⟨rfl, _, rfl, rfl⟩ | exact .inr ⟨rfl, _, _, rfl, rfl⟩ | decide | exact sd.up (by decide) | exact (sd.neg.mul sm).up (by decide) | exact Int.ne_of_gt (Int.mul_pos r1.2.2 r2.2.2) | exact (r1.2.1.mul r2.2.1).up (by decide) | exact (r1.2.1.mul r2.1).up (by decide) | (simp at hq; exact Int.mul_ne_zero (Int.ne_of_gt r1.2.2) hq) | (simp at hq; exact hq) | (simp_all; done) | exact Int.mul_ne_zero (by simp_all) (by omega)), rfl⟩) e_int).1)))).2 ?_ ?_
    · simp [isR]
    refine c_ifF (c_neG (m := true) (enc := PyData.bool) (m1 := true) (m2 := true) eqB shB (by decide) hr.units (e_ixT (dv 6 rfl) e_int rfl) (e_and (c_gt (dv 4 rfl) e_int).1 (fun hq => (e_one (c_eqI (e_mulS (e_call D__law_common hr (a_cons (m := true) (dv 3 rfl) (a_cons (m := true) (dv 4 rfl) (a_nil (m := true)))) rfl ⟨_, _, rfl, (by
            first | assumption | exact .inl ⟨rfl, _, rfl, rfl⟩ | exact .inr ⟨rfl, _, _, rfl, rfl⟩ | decide | exact sd.up (by decide) | exact (sd.neg.mul sm).up (by decide) | exact Int.ne_of_gt (Int.mul_pos r1.2.2 r2.2.2) | exact (r1.2.1.mul r2.2.1).up (by decide) | exact (r1.2.1.mul r2.1).up (by decide) | (simp at hq; exact Int.mul_ne_zero (Int.ne_of_gt r1.2.2) hq) | (simp at hq; exact hq) | (simp_all; done) | exact Int.mul_ne_zero (by simp_all) (by omega)), rfl⟩) (dv 5 rfl) (by
            first | exact .inr (by omega) | exact .inl (sm_lt r1.1) | exact .inl (sm_lt r1.2.1) | exact .inl (sm_lt r2.1))) e_int).1)))).2 ?_ ?_
    · rw [isR_scale (show 0 < 1 + m by omega)]; simp
    refine c_ifF (c_neG (m := true) (enc := (eT2 PyData.bool PyData.int)) (m1 := true) (m2 := true) (eqT2 eqB eqI) (shT2 shB shI) (by decide) hr.units (e_call D__law_refused hr (a_cons (m := true) e_int (a_cons (m := true) (dv 3 rfl) (a_cons (m := true) e_int (a_nil (m := true))))) rfl ⟨_, _, _, rfl, (by
            first | assumption | exact .inl ⟨rfl, _, rfl, rfl⟩ | exact .inr ⟨rfl, _, _, rfl, rfl⟩ | decide | exact sd.up (by decide) | exact (sd.neg.mul sm).up (by decide) | exact Int.ne_of_gt (Int.mul_pos r1.2.2 r2.2.2) | exact (r1.2.1.mul r2.2.1).up (by decide) | exact (r1.2.1.mul r2.1).up (by decide) | (simp at hq; exact Int.mul_ne_zero (Int.ne_of_gt r1.2.2) hq) | (simp at hq; exact hq) | (simp_all; done) | exact Int.mul_ne_zero (by simp_all) (by omega)), rfl⟩) (e_tup2 (f := PyData.bool) (g := PyData.int) e_bl (dv 3 rfl))).2 ?_ ?_
    · simp [refErr, pdI]
    refine c_ifF (t_w (w_and (c_neI (m := true) (dv 4 rfl) e_int).2 (fun hq => (w_one (t_w (w_or (t_not (t_val (e_call D__law_is_same hr (a_cons (m := true) (e_call D_ratio hr (a_cons (m := true) (dv 3 rfl) (a_cons (m := true) (dv 4 rfl) (a_nil (m := true)))) rfl ⟨_, _, rfl, (by
            first | assumption | exact .inl ⟨rfl, _, rfl, rfl⟩ | exact .inr ⟨rfl, _, _, rfl, rfl⟩ | decide | exact sd.up (by decide) | exact (sd.neg.mul sm).up (by decide) | exact Int.ne_of_gt (Int.mul_pos r1.2.2 r2.2.2) | exact (r1.2.1.mul r2.2.1).up (by decide) | exact (r1.2.1.mul r2.1).up (by decide) | (simp at hq; exact Int.mul_ne_zero (Int.ne_of_gt r1.2.2) hq) | (simp at hq; exact hq) | (simp_all; done) | exact Int.mul_ne_zero (by simp_all) (by omega)), (by
            first | assumption | exact .inl ⟨rfl, _, rfl, rfl⟩ | exact .inr ⟨rfl, _, _, rfl, rfl⟩ | decide | exact sd.up (by decide) | exact (sd.neg.mul sm).up (by decide) | exact Int.ne_of_gt (Int.mul_pos r1.2.2 r2.2.2) | exact (r1.2.1.mul r2.2.1).up (by decide) | exact (r1.2.1.mul r2.1).up (by decide) | (simp at hq; exact Int.mul_ne_zero (Int.ne_of_gt r1.2.2) hq) | (simp at hq; exact hq) | (simp_all; done) | exact Int.mul_ne_zero (by simp_all) (by omega)), rfl⟩) (a_cons (m := true) (dv 3 rfl) (a_cons (m := true) (dv 4 rfl) (a_nil (m := true))))) rfl ⟨_, _, _, rfl, (by
            first | assumption | exact .inl ⟨rfl, _, rfl, rfl⟩ | exact .inr ⟨rfl, _, _, rfl, rfl⟩ | decide | exact sd.up (by decide) | exact (sd.neg.mul sm).up (by decide) | exact Int.ne_of_gt (Int.mul_pos r1.2.2 r2.2.2) | exact (r1.2.1.mul r2.2.1).up (by decide) | exact (r1.2.1.mul r2.1).up (by decide) | (simp at hq; exact Int.mul_ne_zero (Int.ne_of_gt r1.2.2) hq) | (simp at hq; exact hq) | (simp_all; done) | exact Int.mul_ne_zero (by simp_all) (by omega)), (by
            first | assumption | exact .inl ⟨rfl, _, rfl, rfl⟩ | exact .inr ⟨rfl, _, _, rfl, rfl⟩ | decide | exact sd.up (by decide) | exact (sd.neg.mul sm).up (by decide) | exact Int.ne_of_gt (Int.mul_pos r1.2.2 r2.2.2) | exact (r1.2.1.mul r2.2.1).up (by decide) | exact (r1.2.1.mul r2.1).up (by decide) | (simp at hq; exact Int.mul_ne_zero (Int.ne_of_gt r1.2.2) hq) | (simp at hq; exact hq) | (simp_all; done) | exact Int.mul_ne_zero (by simp_all) (by omega)), rfl⟩))) (fun hq => (w_one (t_not (t_val (e_call D__law_is_same hr (a_cons (m := true) (e_call D_ratio hr (a_cons (m := true) (e_mulS (dv 3 rfl) (dv 5 rfl) (by
            first | exact .inr (by omega) | exact .inl (sm_lt r1.1) | exact .inl (sm_lt r1.2.1) | exact .inl (sm_lt r2.1))) (a_cons (m := true) (e_mulS (e_neg (dv 4 rfl)) (dv 5 rfl) (by
            first | exact .inr (by omega) | exact .inl (sm_lt r1.1) | exact .inl (sm_lt r1.2.1) | exact .inl (sm_lt r2.1))) (a_nil (m := true)))) rfl ⟨_, _, rfl, (by
            first | assumption | exact .inl ⟨rfl, _, rfl, rfl⟩ | exact .inr ⟨rfl, _, _, rfl, rfl⟩ | decide | exact sd.up (by decide) | exact (sd.neg.mul sm).up (by decide) | exact Int.ne_of_gt (Int.mul_pos r1.2.2 r2.2.2) | exact (r1.2.1.mul r2.2.1).up (by decide) | exact (r1.2.1.mul r2.1).up (by decide) | (simp at hq; exact Int.mul_ne_zero (Int.ne_of_gt r1.2.2) hq) | (simp at hq; exact hq) | (simp_all; done) | exact Int.mul_ne_zero (by simp_all) (by omega)), (by
            first | assumption | exact .inl ⟨rfl, _, rfl, rfl⟩ | exact .inr ⟨rfl, _, _, rfl, rfl⟩ | decide | exact sd.up (by decide) | exact (sd.neg.mul sm).up (by decide) | exact Int.ne_of_gt (Int.mul_pos r1.2.2 r2.2.2) | exact (r1.2.1.mul r2.2.1).up (by decide) | exact (r1.2.1.mul r2.1).up (by decide) | (simp at hq; exact Int.mul_ne_zero (Int.ne_of_gt r1.2.2) hq) | (simp at hq; exact hq) | (simp_all; done) | exact Int.mul_ne_zero (by simp_all) (by omega)), rfl⟩) (a_cons (m := true) (e_neg (dv 3 rfl)) (a_cons (m := true) (dv 4 rfl) (a_nil (m := true))))) rfl ⟨_, _, _, rfl, (by
            first | assumption | exact .inl ⟨rfl, _, rfl, rfl⟩ | exact .inr ⟨rfl, _, _, rfl, rfl⟩ | decide | exact sd.up (by decide) | exact (sd.neg.mul sm).up (by decide) | exact Int.ne_of_gt (Int.mul_pos r1.2.2 r2.2.2) | exact (r1.2.1.mul r2.2.1).up (by decide) | exact (r1.2.1.mul r2.1).up (by decide) | (simp at hq; exact Int.mul_ne_zero (Int.ne_of_gt r1.2.2) hq) | (simp at hq; exact hq) | (simp_all; done) | exact Int.mul_ne_zero (by simp_all) (by omega)), (by
            first | assumption | exact .inl ⟨rfl, _, rfl, rfl⟩ | exact .inr ⟨rfl, _, _, rfl, rfl⟩ | decide | exact sd.up (by decide) | exact (sd.neg.mul sm).up (by decide) | exact Int.ne_of_gt (Int.mul_pos r1.2.2 r2.2.2) | exact (r1.2.1.mul r2.2.1).up (by decide) | exact (r1.2.1.mul r2.1).up (by decide) | (simp at hq; exact Int.mul_ne_zero (Int.ne_of_gt r1.2.2) hq) | (simp at hq; exact hq) | (simp_all; done) | exact Int.mul_ne_zero (by simp_all) (by omega)), rfl⟩))))))))))) ?_ ?_
    · by_cases h0 : d = 0
      · simp [h0]
      · rw [ratio_scale h0 (show 0 < 1 + m by omega)]; simp
    refine s_nil ⟨.inr rfl, ⟨.inr rfl, ⟨.inl rfl, ⟨.inl rfl, ⟨.inl rfl, ⟨.inl rfl, ⟨.inl rfl, ⟨.inr rfl, ⟨.inr rfl, trivial⟩⟩⟩⟩⟩⟩⟩⟩⟩
  refine s_env (env' := [_, _, _, _, _, _, _, _, _]) rfl ?_
  refine c_forR (j := 2) (fun i => [(7, .no), (8, .no), (2, .no)]) PassesOwn.never B.range e_int (by walk_at "d3") nd rfl ⟨.inr rfl, ⟨.inr rfl, ⟨.inl rfl, ⟨.inr rfl, ⟨.inr rfl, ⟨.inr rfl, ⟨.inr rfl, ⟨.inl rfl, ⟨.inl rfl, trivial⟩⟩⟩⟩⟩⟩⟩⟩⟩ (fun i1 hi1 => ?_) ?_
  · skip
    refine s_env (env' := [_, _, _, _, _, _, _, _, _]) rfl ?_
    refine s_then (s_set 7 nd rfl (e_call D__law_drawn_ratio hr (a_cons (m := true) (dv 1 rfl) (a_cons (m := true) (e_add e_int (e_mulS e_int (dv 2 rfl) (by
            first | exact .inr (by omega) | exact .inl (sm_lt r1.1) | exact .inl (sm_lt r1.2.1) | exact .inl (sm_lt r2.1)))) (a_nil (m := true)))) rfl ⟨_, _, rfl, rfl⟩) rfl) ?_
    refine s_env (env' := [_, _, _, _, _, _, _, _, _]) rfl ?_
    refine s_then (s_set 8 nd rfl (e_call D__law_drawn_ratio hr (a_cons (m := true) (dv 1 rfl) (a_cons (m := true) (e_add e_int (e_mulS e_int (dv 2 rfl) (by
            first | exact .inr (by omega) | exact .inl (sm_lt r1.1) | exact .inl (sm_lt r1.2.1) | exact .inl (sm_lt r2.1)))) (a_nil (m := true)))) rfl ⟨_, _, rfl, rfl⟩) rfl) ?_
    refine s_env (env' := [_, _, _, _, _, _, _, _, _]) rfl ?_
    have r1 := drawnR_ok (draws ns) (60 + 9 * (i1 : Int))
    have r2 := drawnR_ok (draws ns) (64 + 9 * (i1 : Int))
    generalize drawnR (draws ns) (60 + 9 * (i1 : Int)) = u at *
    generalize drawnR (draws ns) (64 + 9 * (i1 : Int)) = v at *
    refine c_ifF (t_not (t_val (e_call D__law_is_same hr (a_cons (m := true) (e_call D_plus hr (a_cons (m := true) (dv 7 rfl) (a_cons (m := true) (dv 8 rfl) (a_nil (m := true)))) rfl ⟨_, _, rfl, (by
            first | assumption | exact .inl ⟨rfl, _, rfl, rfl⟩ | exact .inr ⟨rfl, _, _, rfl, rfl⟩ | decide | exact sd.up (by decide) | exact (sd.neg.mul sm).up (by decide) | exact Int.ne_of_gt (Int.mul_pos r1.2.2 r2.2.2) | exact (r1.2.1.mul r2.2.1).up (by decide) | exact (r1.2.1.mul r2.1).up (by decide) | (simp at hq; exact Int.mul_ne_zero (Int.ne_of_gt r1.2.2) hq) | (simp at hq; exact hq) | (simp_all; done) | exact Int.mul_ne_zero (by simp_all) (by omega)), (by
            first | assumption | exact .inl ⟨rfl, _, rfl, rfl⟩ | exact .inr ⟨rfl, _, _, rfl, rfl⟩ | decide | exact sd.up (by decide) | exact (sd.neg.mul sm).up (by decide) | exact Int.ne_of_gt (Int.mul_pos r1.2.2 r2.2.2) | exact (r1.2.1.mul r2.2.1).up (by decide) | exact (r1.2.1.mul r2.1).up (by decide) | (simp at hq; exact Int.mul_ne_zero (Int.ne_of_gt r1.2.2) hq) | (simp at hq; exact hq) | (simp_all; done) | exact Int.mul_ne_zero (by simp_all) (by omega)), rfl⟩) (a_cons (m := true) (e_add (e_mulS (e_ixT (dv 7 rfl) e_int rfl) (e_ixT (dv 8 rfl) e_int rfl) (by
            first | exact .inr (by omega) | exact .inl (sm_lt r1.1) | exact .inl (sm_lt r1.2.1) | exact .inl (sm_lt r2.1))) (e_mulS (e_ixT (dv 8 rfl) e_int rfl) (e_ixT (dv 7 rfl) e_int rfl) (by
            first | exact .inr (by omega) | exact .inl (sm_lt r1.1) | exact .inl (sm_lt r1.2.1) | exact .inl (sm_lt r2.1)))) (a_cons (m := true) (e_mulS (e_ixT (dv 7 rfl) e_int rfl) (e_ixT (dv 8 rfl) e_int rfl) (by
            first | exact .inr (by omega) | exact .inl (sm_lt r1.1) | exact .inl (sm_lt r1.2.1) | exact .inl (sm_lt r2.1))) (a_nil (m := true))))) rfl ⟨_, _, _, rfl, (by
            first | assumption | exact .inl ⟨rfl, _, rfl, rfl⟩ | exact .inr ⟨rfl, _, _, rfl, rfl⟩ | decide | exact sd.up (by decide) | exact (sd.neg.mul sm).up (by decide) | exact Int.ne_of_gt (Int.mul_pos r1.2.2 r2.2.2) | exact (r1.2.1.mul r2.2.1).up (by decide) | exact (r1.2.1.mul r2.1).up (by decide) | (simp at hq; exact Int.mul_ne_zero (Int.ne_of_gt r1.2.2) hq) | (simp at hq; exact hq) | (simp_all; done) | exact Int.mul_ne_zero (by simp_all) (by omega)), (by
            first | assumption | exact .inl ⟨rfl, _, rfl, rfl⟩ | exact .inr ⟨rfl, _, _, rfl, rfl⟩ | decide | exact sd.up (by decide) | exact (sd.neg.mul sm).up (by decide) | exact Int.ne_of_gt (Int.mul_pos r1.2.2 r2.2.2) | exact (r1.2.1.mul r2.2.1).up (by decide) | exact (r1.2.1.mul r2.1).up (by decide) | (simp at hq; exact Int.mul_ne_zero (Int.ne_of_gt r1.2.2) hq) | (simp at hq; exact hq) | (simp_all; done) | exact Int.mul_ne_zero (by simp_all) (by omega)), rfl⟩))) ?_ ?_
    · simp
    refine c_ifF (t_not (t_val (e_call D__law_is_same hr (a_cons (m := true) (e_call D_minus hr (a_cons (m := true) (dv 7 rfl) (a_cons (m := true) (dv 8 rfl) (a_nil (m := true)))) rfl ⟨_, _, rfl, (by
            first | assumption | exact .inl ⟨rfl, _, rfl, rfl⟩ | exact .inr ⟨rfl, _, _, rfl, rfl⟩ | decide | exact sd.up (by decide) | exact (sd.neg.mul sm).up (by decide) | exact Int.ne_of_gt (Int.mul_pos r1.2.2 r2.2.2) | exact (r1.2.1.mul r2.2.1).up (by decide) | exact (r1.2.1.mul r2.1).up (by decide) | (simp at hq; exact Int.mul_ne_zero (Int.ne_of_gt r1.2.2) hq) | (simp at hq; exact hq) | (simp_all; done) | exact Int.mul_ne_zero (by simp_all) (by omega)), (by
            first | assumption | exact .inl ⟨rfl, _, rfl, rfl⟩ | exact .inr ⟨rfl, _, _, rfl, rfl⟩ | decide | exact sd.up (by decide) | exact (sd.neg.mul sm).up (by decide) | exact Int.ne_of_gt (Int.mul_pos r1.2.2 r2.2.2) | exact (r1.2.1.mul r2.2.1).up (by decide) | exact (r1.2.1.mul r2.1).up (by decide) | (simp at hq; exact Int.mul_ne_zero (Int.ne_of_gt r1.2.2) hq) | (simp at hq; exact hq) | (simp_all; done) | exact Int.mul_ne_zero (by simp_all) (by omega)), rfl⟩) (a_cons (m := true) (e_sub (e_mulS (e_ixT (dv 7 rfl) e_int rfl) (e_ixT (dv 8 rfl) e_int rfl) (by
            first | exact .inr (by omega) | exact .inl (sm_lt r1.1) | exact .inl (sm_lt r1.2.1) | exact .inl (sm_lt r2.1))) (e_mulS (e_ixT (dv 8 rfl) e_int rfl) (e_ixT (dv 7 rfl) e_int rfl) (by
            first | exact .inr (by omega) | exact .inl (sm_lt r1.1) | exact .inl (sm_lt r1.2.1) | exact .inl (sm_lt r2.1)))) (a_cons (m := true) (e_mulS (e_ixT (dv 7 rfl) e_int rfl) (e_ixT (dv 8 rfl) e_int rfl) (by
            first | exact .inr (by omega) | exact .inl (sm_lt r1.1) | exact .inl (sm_lt r1.2.1) | exact .inl (sm_lt r2.1))) (a_nil (m := true))))) rfl ⟨_, _, _, rfl, (by
            first | assumption | exact .inl ⟨rfl, _, rfl, rfl⟩ | exact .inr ⟨rfl, _, _, rfl, rfl⟩ | decide | exact sd.up (by decide) | exact (sd.neg.mul sm).up (by decide) | exact Int.ne_of_gt (Int.mul_pos r1.2.2 r2.2.2) | exact (r1.2.1.mul r2.2.1).up (by decide) | exact (r1.2.1.mul r2.1).up (by decide) | (simp at hq; exact Int.mul_ne_zero (Int.ne_of_gt r1.2.2) hq) | (simp at hq; exact hq) | (simp_all; done) | exact Int.mul_ne_zero (by simp_all) (by omega)), (by
            first | assumption | exact .inl ⟨rfl, _, rfl, rfl⟩ | exact .inr ⟨rfl, _, _, rfl, rfl⟩ | decide | exact sd.up (by decide) | exact (sd.neg.mul sm).up (by decide) | exact Int.ne_of_gt (Int.mul_pos r1.2.2 r2.2.2) | exact (r1.2.1.mul r2.2.1).up (by decide) | exact (r1.2.1.mul r2.1).up (by decide) | (simp at hq; exact Int.mul_ne_zero (Int.ne_of_gt r1.2.2) hq) | (simp at hq; exact hq) | (simp_all; done) | exact Int.mul_ne_zero (by simp_all) (by omega)), rfl⟩))) ?_ ?_
    · simp
    refine c_ifF (t_not (t_val (e_call D__law_is_same hr (a_cons (m := true) (e_call D_times hr (a_cons (m := true) (dv 7 rfl) (a_cons (m := true) (dv 8 rfl) (a_nil (m := true)))) rfl ⟨_, _, rfl, (by
            first | assumption | exact .inl ⟨rfl, _, rfl, rfl⟩ | exact .inr ⟨rfl, _, _, rfl, rfl⟩ | decide | exact sd.up (by decide) | exact (sd.neg.mul sm).up (by decide) | exact Int.ne_of_gt (Int.mul_pos r1.2.2 r2.2.2) | exact (r1.2.1.mul r2.2.1).up (by decide) | exact (r1.2.1.mul r2.1).up (by decide) | (simp at hq; exact Int.mul_ne_zero (Int.ne_of_gt r1.2.2) hq) | (simp at hq; exact hq) | (simp_all; done) | exact Int.mul_ne_zero (by simp_all) (by omega)), (by
            first | assumption | exact .inl ⟨rfl, _, rfl, rfl⟩ | exact .inr ⟨rfl, _, _, rfl, rfl⟩ | decide | exact sd.up (by decide) | exact (sd.neg.mul sm).up (by decide) | exact Int.ne_of_gt (Int.mul_pos r1.2.2 r2.2.2) | exact (r1.2.1.mul r2.2.1).up (by decide) | exact (r1.2.1.mul r2.1).up (by decide) | (simp at hq; exact Int.mul_ne_zero (Int.ne_of_gt r1.2.2) hq) | (simp at hq; exact hq) | (simp_all; done) | exact Int.mul_ne_zero (by simp_all) (by omega)), rfl⟩) (a_cons (m := true) (e_mulS (e_ixT (dv 7 rfl) e_int rfl) (e_ixT (dv 8 rfl) e_int rfl) (by
            first | exact .inr (by omega) | exact .inl (sm_lt r1.1) | exact .inl (sm_lt r1.2.1) | exact .inl (sm_lt r2.1))) (a_cons (m := true) (e_mulS (e_ixT (dv 7 rfl) e_int rfl) (e_ixT (dv 8 rfl) e_int rfl) (by
            first | exact .inr (by omega) | exact .inl (sm_lt r1.1) | exact .inl (sm_lt r1.2.1) | exact .inl (sm_lt r2.1))) (a_nil (m := true))))) rfl ⟨_, _, _, rfl, (by
            first | assumption | exact .inl ⟨rfl, _, rfl, rfl⟩ | exact .inr ⟨rfl, _, _, rfl, rfl⟩ | decide | exact sd.up (by decide) | exact (sd.neg.mul sm).up (by decide) | exact Int.ne_of_gt (Int.mul_pos r1.2.2 r2.2.2) | exact (r1.2.1.mul r2.2.1).up (by decide) | exact (r1.2.1.mul r2.1).up (by decide) | (simp at hq; exact Int.mul_ne_zero (Int.ne_of_gt r1.2.2) hq) | (simp at hq; exact hq) | (simp_all; done) | exact Int.mul_ne_zero (by simp_all) (by omega)), (by
            first | assumption | exact .inl ⟨rfl, _, rfl, rfl⟩ | exact .inr ⟨rfl, _, _, rfl, rfl⟩ | decide | exact sd.up (by decide) | exact (sd.neg.mul sm).up (by decide) | exact Int.ne_of_gt (Int.mul_pos r1.2.2 r2.2.2) | exact (r1.2.1.mul r2.2.1).up (by decide) | exact (r1.2.1.mul r2.1).up (by decide) | (simp at hq; exact Int.mul_ne_zero (Int.ne_of_gt r1.2.2) hq) | (simp at hq; exact hq) | (simp_all; done) | exact Int.mul_ne_zero (by simp_all) (by omega)), rfl⟩))) ?_ ?_
    · simp
    refine c_ifF (t_w (w_and (c_neI (m := true) (e_ixT (dv 8 rfl) e_int rfl) e_int).2 (fun hq => (w_one (t_not (t_val (e_call D__law_is_same hr (a_cons (m := true) (e_call D_over hr (a_cons (m := true) (dv 7 rfl) (a_cons (m := true) (dv 8 rfl) (a_nil (m := true)))) rfl ⟨_, _, rfl, (by
            first | assumption | exact .inl ⟨rfl, _, rfl, rfl⟩ | exact .inr ⟨rfl, _, _, rfl, rfl⟩ | decide | exact sd.up (by decide) | exact (sd.neg.mul sm).up (by decide) | exact Int.ne_of_gt (Int.mul_pos r1.2.2 r2.2.2) | exact (r1.2.1.mul r2.2.1).up (by decide) | exact (r1.2.1.mul r2.1).up (by decide) | (simp at hq; exact Int.mul_ne_zero (Int.ne_of_gt r1.2.2) hq) | (simp at hq; exact hq) | (simp_all; done) | exact Int.mul_ne_zero (by simp_all) (by omega)), (by
            first | assumption | exact .inl ⟨rfl, _, rfl, rfl⟩ | exact .inr ⟨rfl, _, _, rfl, rfl⟩ | decide | exact sd.up (by decide) | exact (sd.neg.mul sm).up (by decide) | exact Int.ne_of_gt (Int.mul_pos r1.2.2 r2.2.2) | exact (r1.2.1.mul r2.2.1).up (by decide) | exact (r1.2.1.mul r2.1).up (by decide) | (simp at hq; exact Int.mul_ne_zero (Int.ne_of_gt r1.2.2) hq) | (simp at hq; exact hq) | (simp_all; done) | exact Int.mul_ne_zero (by simp_all) (by omega)), (by
            first | assumption | exact .inl ⟨rfl, _, rfl, rfl⟩ | exact .inr ⟨rfl, _, _, rfl, rfl⟩ | decide | exact sd.up (by decide) | exact (sd.neg.mul sm).up (by decide) | exact Int.ne_of_gt (Int.mul_pos r1.2.2 r2.2.2) | exact (r1.2.1.mul r2.2.1).up (by decide) | exact (r1.2.1.mul r2.1).up (by decide) | (simp at hq; exact Int.mul_ne_zero (Int.ne_of_gt r1.2.2) hq) | (simp at hq; exact hq) | (simp_all; done) | exact Int.mul_ne_zero (by simp_all) (by omega)), rfl⟩) (a_cons (m := true) (e_mulS (e_ixT (dv 7 rfl) e_int rfl) (e_ixT (dv 8 rfl) e_int rfl) (by
            first | exact .inr (by omega) | exact .inl (sm_lt r1.1) | exact .inl (sm_lt r1.2.1) | exact .inl (sm_lt r2.1))) (a_cons (m := true) (e_mulS (e_ixT (dv 7 rfl) e_int rfl) (e_ixT (dv 8 rfl) e_int rfl) (by
            first | exact .inr (by omega) | exact .inl (sm_lt r1.1) | exact .inl (sm_lt r1.2.1) | exact .inl (sm_lt r2.1))) (a_nil (m := true))))) rfl ⟨_, _, _, rfl, (by
            first | assumption | exact .inl ⟨rfl, _, rfl, rfl⟩ | exact .inr ⟨rfl, _, _, rfl, rfl⟩ | decide | exact sd.up (by decide) | exact (sd.neg.mul sm).up (by decide) | exact Int.ne_of_gt (Int.mul_pos r1.2.2 r2.2.2) | exact (r1.2.1.mul r2.2.1).up (by decide) | exact (r1.2.1.mul r2.1).up (by decide) | (simp at hq; exact Int.mul_ne_zero (Int.ne_of_gt r1.2.2) hq) | (simp at hq; exact hq) | (simp_all; done) | exact Int.mul_ne_zero (by simp_all) (by omega)), (by
            first | assumption | exact .inl ⟨rfl, _, rfl, rfl⟩ | exact .inr ⟨rfl, _, _, rfl, rfl⟩ | decide | exact sd.up (by decide) | exact (sd.neg.mul sm).up (by decide) | exact Int.ne_of_gt (Int.mul_pos r1.2.2 r2.2.2) | exact (r1.2.1.mul r2.2.1).up (by decide) | exact (r1.2.1.mul r2.1).up (by decide) | (simp at hq; exact Int.mul_ne_zero (Int.ne_of_gt r1.2.2) hq) | (simp at hq; exact hq) | (simp_all; done) | exact Int.mul_ne_zero (by simp_all) (by omega)), rfl⟩))))))) ?_ ?_
    · simp
    refine c_ifF (c_neG (m := true) (enc := (eT2 PyData.bool PyData.int)) (m1 := true) (m2 := true) (eqT2 eqB eqI) (shT2 shB shI) (by decide) hr.units (e_call D__law_refused hr (a_cons (m := true) e_int (a_cons (m := true) (dv 7 rfl) (a_cons (m := true) (e_tup2 (f := PyData.int) (g := PyData.int) e_int e_int) (a_nil (m := true))))) rfl ⟨_, _, _, rfl, (by
            first | assumption | exact .inl ⟨rfl, _, rfl, rfl⟩ | exact .inr ⟨rfl, _, _, rfl, rfl⟩ | decide | exact sd.up (by decide) | exact (sd.neg.mul sm).up (by decide) | exact Int.ne_of_gt (Int.mul_pos r1.2.2 r2.2.2) | exact (r1.2.1.mul r2.2.1).up (by decide) | exact (r1.2.1.mul r2.1).up (by decide) | (simp at hq; exact Int.mul_ne_zero (Int.ne_of_gt r1.2.2) hq) | (simp at hq; exact hq) | (simp_all; done) | exact Int.mul_ne_zero (by simp_all) (by omega)), rfl⟩) (e_tup2 (f := PyData.bool) (g := PyData.int) e_bl e_int)).2 ?_ ?_
    · simp [refErr]
    refine s_nil ⟨.inr rfl, ⟨.inr rfl, ⟨.inl rfl, ⟨.inr rfl, ⟨.inr rfl, ⟨.inr rfl, ⟨.inr rfl, ⟨.inl rfl, ⟨.inl rfl, trivial⟩⟩⟩⟩⟩⟩⟩⟩⟩
  refine s_env (env' := [_, _, _, _, _, _, _, _, _]) rfl ?_
  exact s_last (s_ret e_bl (by
          rfl))
/-! ### the head: facts by names, the run -/
def dOf (x : Str) (i : Nat) : He.DefD := ⟨(x, none), x, x, defArgs (topS i), defBody (topS i), defScope (topS i), [], []⟩
def fnL : List He.DefD := [dOf "common_divisor" 1, dOf "ratio" 6, dOf "is_ratio" 7, dOf "plus" 8, dOf "minus" 9, dOf "times" 10, dOf "over" 11, dOf "_law_draws" 13, dOf "_law_mix" 14, dOf "_law_common" 15, dOf "_law_ratio" 16, dOf "_law_drawn_ratio" 17, dOf "_law_is_integer" 18, dOf "_law_refused" 19, dOf "_law_is_same" 20, dOf "_law_integer" 21, dOf "law" 22]
def faL : List He.Fa := [.glo "common_divisor", .glo "ratio", .glo "is_ratio", .glo "plus", .glo "minus", .glo "times", .glo "over", .glo "_law_draws", .glo "_law_mix", .glo "_law_common", .glo "_law_ratio", .glo "_law_drawn_ratio", .glo "_law_is_integer", .glo "_law_refused", .glo "_law_is_same", .glo "_law_integer", .glo "law", .free "len", .free "range", .free "list", .free "int", .free "abs", .free "max", .free "min", .free "all", .free "any", .free "isinstance", .free "bool", .free "repr", .free "sum", .free "sorted", .free "set", .free "str", .free "tuple", .free "enumerate", .free "zip", .free "reversed"]
abbrev RR : PySem.W.OpenRow := PySem.W.OpenLaw.row PySem.Challenge.rw_unsaidsizes_k66_ratios
def looseL : List Str := ["common_divisor", "ratio", "is_ratio", "plus", "minus", "times", "over", "_law_draws", "_law_mix", "_law_common", "_law_ratio", "_law_drawn_ratio", "_law_is_integer", "_law_refused", "_law_is_same", "_law_integer", "ModelError", "NoRatio"]
def zP : Nat → Pos := fun k => [⟨12, 8, 12, 13⟩, ⟨12, 8, 12, 15⟩, ⟨12, 8, 12, 24⟩, ⟨12, 25, 12, 27⟩, ⟨12, 8, 12, 28⟩, ⟨12, 8, 12, 28⟩, ⟨13, 8, 13, 12⟩, ⟨13, 8, 13, 15⟩, ⟨13, 18, 13, 20⟩, ⟨13, 8, 13, 20⟩, ⟨11, 17, 11, 21⟩, ⟨11, 23, 11, 25⟩].getD k ⟨0, 0, 0, 0⟩
theorem heP : MeHe zP := ⟨_, fun env => rfl⟩
abbrev PP : Program := PySem.Challenge.rw_unsaidsizes_k66_ratios.prog
abbrev hk : PySem.W.Hook := hookM 6 faL fnL PP XS zP
def ob (s : PySem.W.SharedT) : AlM := obsMG 6 faL fnL PP XS (HandSHeadRun.getT s)
theorem ob_eq (s : PySem.W.SharedT) : ob s = hk.obs s.abs := obsMG_eq (HandSHeadRun.getT_eq s)
theorem run (w : World) : HandSHeadRun.RunEq RR (PySem.W.view RR.prog [22]) hk ob 2000 looseL w := by
  intro os
  kernel_rfl
theorem facts {w : World} {K : PySem.W.Frag} {h : Heap} {mg : Str → Option Value} {f : Addr} (X : K.In h) (G : h.Ns mainGlobals mg) (hfa : mg ("law" : Str) = some (.ref f)) (c1 : SaysM faL fnL PP XS zP K) :
    ∃ fd : FuncData, (∀ (s : Shared) (v : Value), BindsTo s fd ⟨[v], []⟩ [("script", v)]) ∧ ∀ base : Heap, K.In base → base.Ns mainGlobals mg → FnOk PP w K mg base CX0 5 f fd ["script"] (spScr K R_law) := by
  have c : He.SaysD faL fnL K := congrArg (fun z : AlM => z.1) c1
  have B : Bt mg := ⟨He.free_ok X G (c.fact 17 (f := .free "len") rfl), He.free_ok X G (c.fact 18 (f := .free "range") rfl), He.free_ok X G (c.fact 19 (f := .free "list") rfl), He.free_ok X G (c.fact 20 (f := .free "int") rfl), He.free_ok X G (c.fact 21 (f := .free "abs") rfl), He.free_ok X G (c.fact 22 (f := .free "max") rfl), He.free_ok X G (c.fact 23 (f := .free "min") rfl), He.free_ok X G (c.fact 24 (f := .free "all") rfl), He.free_ok X G (c.fact 25 (f := .free "any") rfl), He.free_ok X G (c.fact 26 (f := .free "isinstance") rfl), He.free_ok X G (c.fact 27 (f := .free "bool") rfl), He.free_ok X G (c.fact 28 (f := .free "repr") rfl), He.free_ok X G (c.fact 29 (f := .free "sum") rfl), He.free_ok X G (c.fact 30 (f := .free "sorted") rfl), He.free_ok X G (c.fact 31 (f := .free "set") rfl), He.free_ok X G (c.fact 32 (f := .free "str") rfl), He.free_ok X G (c.fact 33 (f := .free "tuple") rfl), He.free_ok X G (c.fact 34 (f := .free "enumerate") rfl), He.free_ok X G (c.fact 35 (f := .free "zip") rfl), He.free_ok X G (c.fact 36 (f := .free "reversed") rfl)⟩
  obtain ⟨fd0, F0⟩ := c.def_ 0 (d := dOf "common_divisor" 1) rfl
  have A0 : At K mg "common_divisor" s_common_divisor ["one", "two"] := ⟨⟨_, fd0, F0, He.glo_ok X G (c.fact 0 (f := .glo "common_divisor") rfl), FunD.bindsN F0 fun _ _ _ _ _ _ us hl => match us, hl with | [_, _], _ => rfl⟩⟩
  obtain ⟨fd1, F1⟩ := c.def_ 1 (d := dOf "ratio" 6) rfl
  have A1 : At K mg "ratio" s_ratio ["n", "d"] := ⟨⟨_, fd1, F1, He.glo_ok X G (c.fact 1 (f := .glo "ratio") rfl), FunD.bindsN F1 fun _ _ _ _ _ _ us hl => match us, hl with | [_, _], _ => rfl⟩⟩
  obtain ⟨fd2, F2⟩ := c.def_ 2 (d := dOf "is_ratio" 7) rfl
  have A2 : At K mg "is_ratio" s_is_ratio ["pair"] := ⟨⟨_, fd2, F2, He.glo_ok X G (c.fact 2 (f := .glo "is_ratio") rfl), FunD.bindsN F2 fun _ _ _ _ _ _ us hl => match us, hl with | [_], _ => rfl⟩⟩
  obtain ⟨fd3, F3⟩ := c.def_ 3 (d := dOf "plus" 8) rfl
  have A3 : At K mg "plus" s_plus ["one", "two"] := ⟨⟨_, fd3, F3, He.glo_ok X G (c.fact 3 (f := .glo "plus") rfl), FunD.bindsN F3 fun _ _ _ _ _ _ us hl => match us, hl with | [_, _], _ => rfl⟩⟩
  obtain ⟨fd4, F4⟩ := c.def_ 4 (d := dOf "minus" 9) rfl
  have A4 : At K mg "minus" s_minus ["one", "two"] := ⟨⟨_, fd4, F4, He.glo_ok X G (c.fact 4 (f := .glo "minus") rfl), FunD.bindsN F4 fun _ _ _ _ _ _ us hl => match us, hl with | [_, _], _ => rfl⟩⟩
  obtain ⟨fd5, F5⟩ := c.def_ 5 (d := dOf "times" 10) rfl
  have A5 : At K mg "times" s_times ["one", "two"] := ⟨⟨_, fd5, F5, He.glo_ok X G (c.fact 5 (f := .glo "times") rfl), FunD.bindsN F5 fun _ _ _ _ _ _ us hl => match us, hl with | [_, _], _ => rfl⟩⟩
  obtain ⟨fd6, F6⟩ := c.def_ 6 (d := dOf "over" 11) rfl
  have A6 : At K mg "over" s_over ["one", "two"] := ⟨⟨_, fd6, F6, He.glo_ok X G (c.fact 6 (f := .glo "over") rfl), FunD.bindsN F6 fun _ _ _ _ _ _ us hl => match us, hl with | [_, _], _ => rfl⟩⟩
  obtain ⟨fd7, F7⟩ := c.def_ 7 (d := dOf "_law_draws" 13) rfl
  have A7 : At K mg "_law_draws" s__law_draws ["script"] := ⟨⟨_, fd7, F7, He.glo_ok X G (c.fact 7 (f := .glo "_law_draws") rfl), FunD.bindsN F7 fun _ _ _ _ _ _ us hl => match us, hl with | [_], _ => rfl⟩⟩
  obtain ⟨fd8, F8⟩ := c.def_ 8 (d := dOf "_law_mix" 14) rfl
  have A8 : At K mg "_law_mix" s__law_mix ["draws", "k", "many"] := ⟨⟨_, fd8, F8, He.glo_ok X G (c.fact 8 (f := .glo "_law_mix") rfl), FunD.bindsN F8 fun _ _ _ _ _ _ us hl => match us, hl with | [_, _, _], _ => rfl⟩⟩
  obtain ⟨fd9, F9⟩ := c.def_ 9 (d := dOf "_law_common" 15) rfl
  have A9 : At K mg "_law_common" s__law_common ["one", "two"] := ⟨⟨_, fd9, F9, He.glo_ok X G (c.fact 9 (f := .glo "_law_common") rfl), FunD.bindsN F9 fun _ _ _ _ _ _ us hl => match us, hl with | [_, _], _ => rfl⟩⟩
  obtain ⟨fd10, F10⟩ := c.def_ 10 (d := dOf "_law_ratio" 16) rfl
  have A10 : At K mg "_law_ratio" s__law_ratio ["n", "d"] := ⟨⟨_, fd10, F10, He.glo_ok X G (c.fact 10 (f := .glo "_law_ratio") rfl), FunD.bindsN F10 fun _ _ _ _ _ _ us hl => match us, hl with | [_, _], _ => rfl⟩⟩
  obtain ⟨fd11, F11⟩ := c.def_ 11 (d := dOf "_law_drawn_ratio" 17) rfl
  have A11 : At K mg "_law_drawn_ratio" s__law_drawn_ratio ["draws", "k"] := ⟨⟨_, fd11, F11, He.glo_ok X G (c.fact 11 (f := .glo "_law_drawn_ratio") rfl), FunD.bindsN F11 fun _ _ _ _ _ _ us hl => match us, hl with | [_, _], _ => rfl⟩⟩
  obtain ⟨fd12, F12⟩ := c.def_ 12 (d := dOf "_law_is_integer" 18) rfl
  have A12 : At K mg "_law_is_integer" s__law_is_integer ["actual"] := ⟨⟨_, fd12, F12, He.glo_ok X G (c.fact 12 (f := .glo "_law_is_integer") rfl), FunD.bindsN F12 fun _ _ _ _ _ _ us hl => match us, hl with | [_], _ => rfl⟩⟩
  obtain ⟨fd13, F13⟩ := c.def_ 13 (d := dOf "_law_refused" 19) rfl
  have A13 : At K mg "_law_refused" s__law_refused ["way", "one", "two"] := ⟨⟨_, fd13, F13, He.glo_ok X G (c.fact 13 (f := .glo "_law_refused") rfl), FunD.bindsN F13 fun _ _ _ _ _ _ us hl => match us, hl with | [_, _, _], _ => rfl⟩⟩
  obtain ⟨fd14, F14⟩ := c.def_ 14 (d := dOf "_law_is_same" 20) rfl
  have A14 : At K mg "_law_is_same" s__law_is_same ["told", "n", "d"] := ⟨⟨_, fd14, F14, He.glo_ok X G (c.fact 14 (f := .glo "_law_is_same") rfl), FunD.bindsN F14 fun _ _ _ _ _ _ us hl => match us, hl with | [_, _, _], _ => rfl⟩⟩
  obtain ⟨fd15, F15⟩ := c.def_ 15 (d := dOf "_law_integer" 21) rfl
  have A15 : At K mg "_law_integer" s__law_integer ["draws", "k"] := ⟨⟨_, fd15, F15, He.glo_ok X G (c.fact 15 (f := .glo "_law_integer") rfl), FunD.bindsN F15 fun _ _ _ _ _ _ us hl => match us, hl with | [_, _], _ => rfl⟩⟩
  obtain ⟨fd16, F16⟩ := c.def_ 16 (d := dOf "law" 22) rfl
  have e := hfa.symm.trans (He.glo_ok X G (c.fact 16 (f := .glo "law") rfl))
  cases e
  have b := FunD.bindsA (ps := ["script"]) F16 fun _ _ _ _ _ _ us hl => match us, hl with | [_], _ => rfl
  refine ⟨fd16, fun s v => b s [v] rfl, fun base _ _ => ?_⟩
  have ER : Er PP w K mg base XS := er_of X G (congrArg (fun z : AlM => z.2.1) c1) (congrArg (fun z : AlM => z.2.2) c1) heP
  have D_common_divisor := ok_common_divisor (P := PP) (w := w) (base := base) (k := 0) B A0
  have D_ratio := ok_ratio (P := PP) (w := w) (base := base) (k := 1) B (D_common_divisor.up (by decide)) A1
  have D_is_ratio := ok_is_ratio (P := PP) (w := w) (base := base) (k := 1) B (D_common_divisor.up (by decide)) A2
  have D_plus := ok_plus (P := PP) (w := w) (base := base) (k := 2) B (D_ratio.up (by decide)) A3
  have D_minus := ok_minus (P := PP) (w := w) (base := base) (k := 2) B (D_ratio.up (by decide)) A4
  have D_times := ok_times (P := PP) (w := w) (base := base) (k := 2) B (D_ratio.up (by decide)) A5
  have D_over := ok_over (P := PP) (w := w) (base := base) (k := 2) B (D_ratio.up (by decide)) A6
  have D__law_draws := ok__law_draws (P := PP) (w := w) (base := base) (k := 0) B A7
  have D__law_mix := ok__law_mix (P := PP) (w := w) (base := base) (k := 0) B A8
  have D__law_common := ok__law_common (P := PP) (w := w) (base := base) (k := 0) B A9
  have D__law_ratio := ok__law_ratio (P := PP) (w := w) (base := base) (k := 1) B (D__law_common.up (by decide)) A10
  have D__law_drawn_ratio := ok__law_drawn_ratio (P := PP) (w := w) (base := base) (k := 2) B (D__law_ratio.up (by decide)) (D__law_mix.up (by decide)) A11
  have D__law_is_integer := ok__law_is_integer (P := PP) (w := w) (base := base) (k := 0) B A12
  have DX_ratio := ex_ratio (P := PP) (w := w) (base := base) (k := 0) B ER A1
  have DX_over := ex_over (P := PP) (w := w) (base := base) (k := 0) B ER A6
  have D__law_refused := ok__law_refused (P := PP) (w := w) (base := base) (k := 3) B ER (DX_ratio.up (by decide)) (DX_over.up (by decide)) A13
  have D__law_is_same := ok__law_is_same (P := PP) (w := w) (base := base) (k := 2) B (D__law_ratio.up (by decide)) (D__law_is_integer.up (by decide)) A14
  have D__law_integer := ok__law_integer (P := PP) (w := w) (base := base) (k := 1) B (D__law_mix.up (by decide)) A15
  exact ok_law (k := 4) B (D__law_draws.up (by decide)) (D__law_integer.up (by decide)) (D__law_drawn_ratio.up (by decide)) (D__law_mix.up (by decide)) (D_is_ratio.up (by decide)) (D__law_refused.up (by decide)) (D__law_is_same.up (by decide)) (D_plus.up (by decide)) (D_minus.up (by decide)) (D_times.up (by decide)) (D__law_common.up (by decide)) (D_over.up (by decide)) (D_ratio.up (by decide)) F16
end W3
open PySem PySem.W PySem.Calls PyProof.Rows
theorem PySem.Challenge.cw_unsaidsizes_k66_ratios_holds : PySem.Challenge.rw_unsaidsizes_k66_ratios.Holds := by
  w_on; o_law
  refine HandSHeadRun.head_any (r := OpenLaw.row PySem.Challenge.rw_unsaidsizes_k66_ratios) (q := view (OpenLaw.row PySem.Challenge.rw_unsaidsizes_k66_ratios).prog [22]) (H := W3.hk) (ob := W3.ob) (M := 2000) (loose := W3.looseL) (d := HandSHeadRun.topDef (OpenLaw.row PySem.Challenge.rw_unsaidsizes_k66_ratios).prog 22) (kwd := []) W3.ob_eq
    (by kernel_rfl) (fun s => by kernel_rfl) W3.run (by kernel_rfl) (by kernel_rfl) (by kernel_rfl) (by rfl) (by first | assumption | decide +kernel) (by decide +kernel) ⟨rfl, rfl, rfl, rfl, rfl, by decide +kernel⟩ ?hw ?hc
  case hw => w_witness2
  case hc =>
    refine L2.walk_ofE (l := PySem.Challenge.rw_unsaidsizes_k66_ratios) (n := 63) (k := 5) (x := "script") (CX := L2.CX0) rfl (by decide) (by kernel_rfl) ⟨rfl, by decide, by decide⟩ ?F (fun _ _ _ _ z => z)
    intro w mg fa h Y G hmg0
    obtain ⟨K, KX, c⟩ := Y
    have hmg : mg ("law" : PySem.Str) = some (.ref fa) := by
      have e : (HandSHeadRun.topDef (OpenLaw.row PySem.Challenge.rw_unsaidsizes_k66_ratios).prog 22).name = ("law" : PySem.Str) := by kernel_rfl
      rw [← e]
      exact hmg0
    obtain ⟨fd, hb, hF⟩ := W3.facts (w := w) KX G hmg c
    exact ⟨K, fd, D3.spScr K W3.R_law, KX, hb, fun H a ns hl _ hS => D3.law_of hl hS, hF⟩
