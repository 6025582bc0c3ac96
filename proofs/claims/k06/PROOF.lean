import PyProof.Rows.All
import Wide.All
import OpenK.AllK
import Wide.FinOn
import HandS.Base
import HandS.Call
import HandS.List
import HandS.Comp
import HandS.Ends
import HandS.Iter
import HandS.Text
import HandS.Words
import HandS.Defaults
import HandS.Wide
import HandS.Style
import HandS.IsInst
import HandS.RaiseMore
import HandS.More
import HandS.WordsExc
import HandS.Head0
import HandS.Head1
import HandS.Head2
import HandS.HeadEnd
import HandS.HeadHook1
import HandS.HeadHook2
import HandS.Exc
import KE.KExcSuper
import KE.KSuper
import HandS.ExcInit
import HandS.ExcIs
import HandS.ExcField
import HandS.TryOnly
import KE.KExcIs
import HandS.WideBits
import HandS.Strs
import PyProof.SumWalkG
import HandS.SetFor
import HandS.Deep
import HandS.Conv
import HandS.TupSets
import PySem.Challenge.RW_unsaidsizes_k06_tables_of_a_model
set_option Elab.async false
set_option linter.all false
set_option maxRecDepth 100000
set_option maxHeartbeats 8000000
namespace D3
open PySem PySem.Spec L2
abbrev St := L2.St

/-! ### data in an abstract heap -/
def Ex (H H' : Hp) : Prop := ∀ a o, H a = some o → H' a = some o
theorem Ex.refl (H : Hp) : Ex H H := fun _ _ h => h
theorem Ex.trans {H H1 H2 : Hp} (a : Ex H H1) (b : Ex H1 H2) : Ex H H2 := fun x o h => b x o (a x o h)
theorem Ex.new {H : Hp} {p : Addr} {o : HO} (h : H p = none) : Ex H (upd H p o) := fun a u e => by
  rw [upd_ne (ne_of_none e h)]
  exact e
theorem Ex.put {F H : Hp} {p : Addr} {o : HO} (e : Ex F H) (h : F p = none) : Ex F (upd H p o) := fun a u ha => by
  rw [upd_ne (ne_of_none ha h)]
  exact e a u ha
theorem Ex.back {H H' : Hp} {p : Addr} (e : Ex H H') (h : H' p = none) : H p = none := by
  cases h1 : H p with
  | none => rfl
  | some o => rw [e p o h1] at h; cases h
theorem Ex.both {F H : Hp} {p : Addr} {o : HO} (e : Ex F H) : Ex (upd F p o) (upd H p o) := fun a u ha => by
  by_cases h : a = p
  · subst h; rw [upd_same] at ha ⊢; exact ha
  · rw [upd_ne h] at ha ⊢; exact e a u ha
theorem Ex.at_ {F H : Hp} {p : Addr} {o : HO} (e : Ex F H) (h : H p = some o) : Ex (upd F p o) H := fun a u ha => by
  by_cases hp : a = p
  · subst hp; rw [upd_same] at ha; cases ha; exact h
  · rw [upd_ne hp] at ha; exact e a u ha
theorem ex_t {K : PySem.W.Frag} {H H' : Hp} {a : Addr} {xs : List V} (e : Ex H H') (h : SqT K H a xs) : SqT K H' a xs := by
  rcases h with (h | ⟨o, h⟩) | h
  · exact .inl (.inl (e a _ h))
  · exact .inl (.inr ⟨o, e a _ h⟩)
  · exact .inr h
theorem ex_l {K : PySem.W.Frag} {H H' : Hp} {a : Addr} {xs : List V} (e : Ex H H') (h : SqL K H a xs) : SqL K H' a xs := by
  rcases h with (h | ⟨o, h⟩) | h
  · exact .inl (.inl (e a _ h))
  · exact .inl (.inr ⟨o, e a _ h⟩)
  · exact .inr h

mutual
inductive Dq (K : PySem.W.Frag) (H : Hp) : V → PyData → Prop
  | non : Dq K H .non .none
  | bl (b : Bool) : Dq K H (.bl b) (.bool b)
  | int (i : Int) : Dq K H (.int i) (.int i)
  | str (x : Str) : Dq K H (.str x) (.str x)
  | lst {a : Addr} {xs : List V} {ds : List PyData} : H a = some (.lst xs) → DqAll K H xs ds → Dq K H (.ref a) (.list ds)
  | tup {a : Addr} {xs : List V} {ds : List PyData} : SqT K H a xs → DqAll K H xs ds → Dq K H (.ref a) (.tuple ds)
inductive DqAll (K : PySem.W.Frag) (H : Hp) : List V → List PyData → Prop
  | nil : DqAll K H [] []
  | cons {v : V} {vs : List V} {d : PyData} {ds : List PyData} : Dq K H v d → DqAll K H vs ds → DqAll K H (v :: vs) (d :: ds)
end
section
variable {K : PySem.W.Frag} {H H' F F' : Hp}
mutual
theorem Dq.mono (e : Ex H H') : ∀ (d : PyData) (v : V), Dq K H v d → Dq K H' v d
  | .none, _, h => by cases h; exact .non
  | .bool b, _, h => by cases h; exact .bl b
  | .int i, _, h => by cases h; exact .int i
  | .str x, _, h => by cases h; exact .str x
  | .list ds, _, h => by
    cases h with
    | lst hs ha => exact .lst (e _ _ hs) (DqAll.mono e ds _ ha)
  | .tuple ds, _, h => by
    cases h with
    | tup hs ha => exact .tup (ex_t e hs) (DqAll.mono e ds _ ha)
  | .dict _, _, h => by cases h
theorem DqAll.mono (e : Ex H H') : ∀ (ds : List PyData) (vs : List V), DqAll K H vs ds → DqAll K H' vs ds
  | [], _, h => by cases h; exact .nil
  | d :: ds, _, h => by
    cases h with
    | cons h1 h2 => exact .cons (Dq.mono e d _ h1) (DqAll.mono e ds _ h2)
end
mutual
theorem Dq.dp : ∀ (d : PyData) (v : V), Dq K H v d → Dp K H v d
  | .none, _, h => by cases h; exact .non
  | .bool b, _, h => by cases h; exact .bl b
  | .int i, _, h => by cases h; exact .int i
  | .str x, _, h => by cases h; exact .str x
  | .list ds, _, h => by
    cases h with
    | lst hs ha => exact .lst (.inl (.inl hs)) (DqAll.dp ds _ ha)
  | .tuple ds, _, h => by
    cases h with
    | tup hs ha => exact .tup hs (DqAll.dp ds _ ha)
  | .dict _, _, h => by cases h
theorem DqAll.dp : ∀ (ds : List PyData) (vs : List V), DqAll K H vs ds → DpAll K H vs ds
  | [], _, h => by cases h; exact .nil
  | d :: ds, _, h => by
    cases h with
    | cons h1 h2 => exact .cons (Dq.dp d _ h1) (DqAll.dp ds _ h2)
end
theorem Dq.up {v : V} {d : PyData} (h : Dq K H v d) (e : Ex H H') : Dq K H' v d := Dq.mono e d v h
theorem DqAll.up {vs : List V} {ds : List PyData} (h : DqAll K H vs ds) (e : Ex H H') : DqAll K H' vs ds := DqAll.mono e ds vs h
theorem DqAll.length : ∀ {vs : List V} {ds : List PyData}, DqAll K H vs ds → vs.length = ds.length
  | _, [], h => by cases h; rfl
  | _, d :: ds, h => by
    cases h with
    | cons h1 h2 => simp [DqAll.length h2]
theorem DqAll.get : ∀ {vs : List V} {ds : List PyData} {i : Nat} {d : PyData}, DqAll K H vs ds → ds[i]? = some d → ∃ v, vs[i]? = some v ∧ Dq K H v d
  | _, [], i, d, h, e => by simp at e
  | _, c :: ds, 0, d, h, e => by
    cases h with
    | cons h1 h2 => simp at e; subst e; exact ⟨_, rfl, h1⟩
  | _, c :: ds, i + 1, d, h, e => by
    cases h with
    | cons h1 h2 =>
      obtain ⟨v, a, b⟩ := DqAll.get (i := i) h2 (by simpa using e)
      exact ⟨v, by simpa using a, b⟩
theorem DqAll.getV {vs : List V} {ds : List PyData} {i : Nat} {v : V} (h : DqAll K H vs ds) (e : vs[i]? = some v) : ∃ d, ds[i]? = some d ∧ Dq K H v d := by
  have hl := h.length
  have hi : i < ds.length := by
    have := (List.getElem?_eq_some_iff.mp e).1
    omega
  obtain ⟨w, hw, hd⟩ := h.get (List.getElem?_eq_getElem hi)
  rw [e] at hw; cases hw
  exact ⟨_, List.getElem?_eq_getElem hi, hd⟩
theorem DqAll.append : ∀ {vs ws : List V} {ds es : List PyData}, DqAll K H vs ds → DqAll K H ws es → DqAll K H (vs ++ ws) (ds ++ es)
  | _, _, [], _, h, g => by cases h; exact g
  | _, _, d :: ds, _, h, g => by
    cases h with
    | cons h1 h2 => exact .cons h1 (DqAll.append h2 g)
theorem DqAll.set {v : V} {d : PyData} (hv : Dq K H v d) : ∀ {vs : List V} {ds : List PyData} (i : Nat), DqAll K H vs ds → DqAll K H (vs.set i v) (ds.set i d)
  | _, [], _, h => by cases h; exact .nil
  | _, c :: ds, 0, h => by
    cases h with
    | cons h1 h2 => exact .cons hv h2
  | _, c :: ds, i + 1, h => by
    cases h with
    | cons h1 h2 => exact .cons h1 (DqAll.set hv i h2)
theorem DqAll.drop : ∀ {vs : List V} {ds : List PyData} (n : Nat), DqAll K H vs ds → DqAll K H (vs.drop n) (ds.drop n)
  | _, _, 0, h => h
  | _, [], n + 1, h => by cases h; exact .nil
  | _, d :: ds, n + 1, h => by
    cases h with
    | cons h1 h2 => exact DqAll.drop n h2
theorem DqAll.take : ∀ {vs : List V} {ds : List PyData} (n : Nat), DqAll K H vs ds → DqAll K H (vs.take n) (ds.take n)
  | _, _, 0, h => .nil
  | _, [], n + 1, h => by cases h; exact .nil
  | _, d :: ds, n + 1, h => by
    cases h with
    | cons h1 h2 => exact .cons h1 (DqAll.take n h2)
theorem DqAll.ints : ∀ {vs : List V} {ns : List Int}, DqAll K H vs (ns.map .int) → vs = ns.map V.int
  | _, [], h => by cases h; rfl
  | _, n :: ns, h => by
    cases h with
    | cons h1 h2 => cases h1; rw [DqAll.ints h2]; rfl
theorem DqAll.bls : ∀ {vs : List V} {ns : List Bool}, DqAll K H vs (ns.map .bool) → vs = ns.map V.bl
  | _, [], h => by cases h; rfl
  | _, n :: ns, h => by
    cases h with
    | cons h1 h2 => cases h1; rw [DqAll.bls h2]; rfl
theorem DqAll.ofInts : ∀ (ns : List Int), DqAll K H (ns.map V.int) (ns.map .int)
  | [] => .nil
  | n :: ns => .cons (.int n) (DqAll.ofInts ns)
theorem DqAll.repl {v : V} {d : PyData} (hv : Dq K H v d) : ∀ n : Nat, DqAll K H (List.replicate n v) (List.replicate n d)
  | 0 => .nil
  | n + 1 => .cons hv (DqAll.repl hv n)
/-- what needs no heap -/
def scalD : PyData → Bool
  | .none | .bool _ | .int _ | .str _ => true
  | _ => false
theorem Dq.scal {v : V} {d : PyData} (h : Dq K H v d) (s : scalD d = true) : Dq K H' v d := by
  cases h with
  | non => exact .non
  | bl b => exact .bl b
  | int i => exact .int i
  | str x => exact .str x
  | lst => cases s
  | tup => cases s
theorem DqAll.scal : ∀ {vs : List V} {ds : List PyData}, DqAll K H vs ds → ds.all scalD = true → DqAll K H' vs ds
  | _, [], h, _ => by cases h; exact .nil
  | _, d :: ds, h, s => by
    cases h with
    | cons h1 h2 =>
      rw [List.all_cons, Bool.and_eq_true] at s
      exact .cons (h1.scal s.1) (DqAll.scal h2 s.2)
end

/-! ### the frozen part grows -/
structure Grow (F H F' H' : Hp) : Prop where
  ff : Ex F F'
  hh : Ex H H'
  fh : Ex F' H'
  old : ∀ a, F a = none → H a ≠ none → F' a = none
theorem Grow.refl {F H : Hp} (e : Ex F H) : Grow F H F H := ⟨Ex.refl _, Ex.refl _, e, fun _ h _ => h⟩
theorem Grow.trans {F H F1 H1 F2 H2 : Hp} (a : Grow F H F1 H1) (b : Grow F1 H1 F2 H2) : Grow F H F2 H2 :=
  ⟨a.ff.trans b.ff, a.hh.trans b.hh, b.fh, fun x h0 h1 => b.old x (a.old x h0 h1) fun z => by
    cases h : H x with
    | none => exact h1 h
    | some o => rw [a.hh x o h] at z; cases z⟩
/-- a new object, frozen -/
theorem Grow.new {F H : Hp} {p : Addr} {o : HO} (e : Ex F H) (h : H p = none) : Grow F H (upd F p o) (upd H p o) :=
  ⟨Ex.new (e.back h), Ex.new h, e.both, fun a h0 h1 => by
    by_cases ha : a = p
    · subst ha; exact absurd h h1
    · rw [upd_ne ha]; exact h0⟩
/-- a new object, not frozen -/
theorem Grow.own {F H : Hp} {p : Addr} {o : HO} (e : Ex F H) (h : H p = none) : Grow F H F (upd H p o) :=
  ⟨Ex.refl _, Ex.new h, e.put (e.back h), fun a h0 _ => h0⟩
/-- junk -/
theorem Grow.junk {F H H' : Hp} (e : Ex F H) (h : Ex H H') : Grow F H F H' := ⟨Ex.refl _, h, e.trans h, fun _ h0 _ => h0⟩
/-- what was owned and new is frozen -/
theorem Grow.frz {F0 H0 F H : Hp} {p : Addr} {o : HO} (g : Grow F0 H0 F H) (h0 : H0 p = none) (hf : F p = none) (h : H p = some o) : Grow F0 H0 (upd F p o) H :=
  ⟨g.ff.trans (Ex.new hf), g.hh, g.fh.at_ h, fun a a0 a1 => by
    by_cases ha : a = p
    · subst ha; exact absurd h0 a1
    · rw [upd_ne ha]; exact g.old a a0 a1⟩
theorem Grow.put {F0 H0 F H : Hp} {p : Addr} {o : HO} (g : Grow F0 H0 F H) (h0 : H0 p = none) (hf : F p = none) : Grow F0 H0 F (upd H p o) :=
  ⟨g.ff, g.hh.put h0, g.fh.put hf, g.old⟩

/-! ### slots -/
/-- what is known of a value of a new tree -/
inductive Ty where
  | any
  | int
  | L (n : Nat) (t : Ty)
  | T (n : Nat) (f : Nat → Ty)
/-- how many items more a list may have that had at most so many (its items are known by t) -/
def Ty.cnt (c : Nat) : Ty → Nat
  | .any => c
  | .int => c
  | _ => 0
theorem Ty.cnt_le (c : Nat) (t : Ty) : t.cnt c ≤ c := by cases t <;> first | exact Nat.le_refl _ | exact Nat.zero_le _
theorem Ty.cnt_mono {c c' : Nat} (h : c ≤ c') (t : Ty) : t.cnt c ≤ t.cnt c' := by cases t <;> first | exact h | exact Nat.le_refl _
abbrev Reg := Addr → Option (Nat × Nat × Ty)
def VT (K : PySem.W.Frag) (F : Hp) (Φ : Reg) (e : Nat) : Ty → V → Prop
  | .any, _ => True
  | .int, v => ∃ i, v = .int i
  | .L n t, v => ∃ a, v = .ref a ∧ Φ a = some (e, n, t)
  | .T n f, v => ∃ a vs, v = .ref a ∧ SqT K F a vs ∧ vs.length = n ∧ ∀ (i : Nat) w, vs[i]? = some w → VT K F Φ e (f i) w
def ExR (Φ Φ' : Reg) : Prop := ∀ a x, Φ a = some x → Φ' a = some x
theorem VT.up {K : PySem.W.Frag} {F F' : Hp} {Φ Φ' : Reg} {e : Nat} (x : Ex F F') (g : ExR Φ Φ') : ∀ (t : Ty) (v : V), VT K F Φ e t v → VT K F' Φ' e t v
  | .any, _, _ => trivial
  | .int, _, h => h
  | .L n t, v, ⟨a, h1, h2⟩ => ⟨a, h1, g a _ h2⟩
  | .T n f, v, ⟨a, vs, h1, h2, hn, h3⟩ => ⟨a, vs, h1, ex_t x h2, hn, fun i w hw => VT.up x g (f i) w (h3 i w hw)⟩
/-- the heap in which the trees up to e stand -/
def mixH (F : Hp) (Φ : Reg) (e : Nat) (H : Hp) : Hp := fun a => match Φ a with
  | some (e', _) => if e' ≤ e then H a else F a
  | none => F a
theorem mixH.le {F H : Hp} {Φ : Reg} {e : Nat} (x : Ex F H) : Ex (mixH F Φ e H) H := fun a o h => by
  unfold mixH at h
  split at h
  · split at h
    · exact h
    · exact x a o h
  · exact x a o h

/-- a tree whose lists are all different, and known to one slot alone: leaves are data, pin tells the value, hole is a value whose tree another slot has -/
inductive Tr where
  | leaf (d : PyData)
  | node (ts : List Tr)
  | tup (ts : List Tr)
  | pin (v : V) (t : Tr)
  | hole (v : V)
mutual
inductive TrAt (K : PySem.W.Frag) (F H : Hp) : V → Tr → List Addr → Prop
  | leaf {v : V} {d : PyData} : Dq K F v d → TrAt K F H v (.leaf d) []
  | node {a : Addr} {vs : List V} {ts : List Tr} {A : List Addr} : H a = some (.lst vs) → vs.length ≤ 1000000 → TrAll K F H vs ts A → TrAt K F H (.ref a) (.node ts) (a :: A)
  | tup {a : Addr} {vs : List V} {ts : List Tr} {A : List Addr} : SqT K F a vs → TrAll K F H vs ts A → TrAt K F H (.ref a) (.tup ts) A
  | pin {v : V} {t : Tr} {A : List Addr} : TrAt K F H v t A → TrAt K F H v (.pin v t) A
  | hole (v : V) : TrAt K F H v (.hole v) []
inductive TrAll (K : PySem.W.Frag) (F H : Hp) : List V → List Tr → List Addr → Prop
  | nil : TrAll K F H [] [] []
  | cons {v : V} {vs : List V} {t : Tr} {ts : List Tr} {A B : List Addr} : TrAt K F H v t A → TrAll K F H vs ts B → TrAll K F H (v :: vs) (t :: ts) (A ++ B)
end
mutual
theorem TrAt.mono {K : PySem.W.Frag} {F F' H H' : Hp} (xf : Ex F F') : ∀ (t : Tr) (v : V) (A : List Addr), TrAt K F H v t A → (∀ a ∈ A, ∀ vs, H a = some (.lst vs) → H' a = some (.lst vs)) → TrAt K F' H' v t A
  | .leaf d, _, _, h, _ => by
    cases h with
    | leaf h => exact .leaf (h.up xf)
  | .node ts, _, _, h, g => by
    cases h with
    | node h1 hl h2 => exact .node (g _ (List.mem_cons_self ..) _ h1) hl (TrAll.mono xf ts _ _ h2 fun a ha => g a (List.mem_cons_of_mem _ ha))
  | .tup ts, _, _, h, g => by
    cases h with
    | tup h1 h2 => exact .tup (ex_t xf h1) (TrAll.mono xf ts _ _ h2 g)
  | .pin w t, _, _, h, g => by
    cases h with
    | pin h => exact .pin (TrAt.mono xf t _ _ h g)
  | .hole w, _, _, h, g => by
    cases h with
    | hole => exact .hole _
theorem TrAll.mono {K : PySem.W.Frag} {F F' H H' : Hp} (xf : Ex F F') : ∀ (ts : List Tr) (vs : List V) (A : List Addr), TrAll K F H vs ts A → (∀ a ∈ A, ∀ us, H a = some (.lst us) → H' a = some (.lst us)) → TrAll K F' H' vs ts A
  | [], _, _, h, _ => by
    cases h with
    | nil => exact .nil
  | t :: ts, _, _, h, g => by
    cases h with
    | cons h1 h2 => exact .cons (TrAt.mono xf t _ _ h1 fun a ha => g a (List.mem_append_left _ ha)) (TrAll.mono xf ts _ _ h2 fun a ha => g a (List.mem_append_right _ ha))
end
theorem TrAt.up {K : PySem.W.Frag} {F F' H H' : Hp} {v : V} {t : Tr} {A : List Addr} (h : TrAt K F H v t A) (xf : Ex F F') (g : ∀ a ∈ A, ∀ vs, H a = some (.lst vs) → H' a = some (.lst vs)) : TrAt K F' H' v t A := TrAt.mono xf t v A h g
theorem TrAll.up {K : PySem.W.Frag} {F F' H H' : Hp} {vs : List V} {ts : List Tr} {A : List Addr} (h : TrAll K F H vs ts A) (xf : Ex F F') (g : ∀ a ∈ A, ∀ vs, H a = some (.lst vs) → H' a = some (.lst vs)) : TrAll K F' H' vs ts A := TrAll.mono xf ts vs A h g

inductive Sl where
  | no
  | dat (d : PyData)
  | own (ds : List PyData)
  | scr (ns : List Int)
  | exc (a dd : Addr) (d : PyData)
  /-- a value of a new tree: its time (0: frozen), what is known of its lists, its datum -/
  | mes (e c : Nat) (t : Ty) (d : Option PyData)
  /-- a list that this slot alone knows, its items known by t -/
  | ownN (t : Ty) (ds : List PyData)
  /-- an item of the list a, which holds vs -/
  | itm (a : Addr) (vs : List V) (e c n : Nat) (t : Ty)
  /-- a new list of new lists, all different, that may be changed -/
  | tab (e c n m : Nat) (dss : List (List PyData))
  /-- a tree of new lists, all different, with the value v -/
  | tr (v : V) (t : Tr)

def OwnS (env : List Sl) (σ : St) (i : Nat) (p : Addr) : Prop := σ[i]? = some (some (.ref p)) ∧ ((∃ ds, env[i]? = some (.own ds)) ∨ ∃ t ds, env[i]? = some (.ownN t ds))
/-- vs: different new lists, with the items dss -/
def TabAt (K : PySem.W.Frag) (F H : Hp) (Φ : Reg) (e m : Nat) (vs : List V) (dss : List (List PyData)) : Prop := vs.Nodup ∧ vs.length = dss.length ∧ ∀ (k : Nat) (ds : List PyData), dss[k]? = some ds → ∃ p ws, vs[k]? = some (.ref p) ∧ Φ p = some (e, m, .any) ∧ H p = some (.lst ws) ∧ DqAll K F ws ds
/-- the trees of the slots -/
def trQ : Nat × Nat × Ty := (77, 1000000, .any)
def TrF (K : PySem.W.Frag) (env : List Sl) (σ : St) (F H : Hp) (Φ : Reg) : Prop := ∃ A : Nat → List Addr, (∀ (i : Nat) (v : V) (t : Tr), env[i]? = some (.tr v t) → σ[i]? = some (some v) ∧ TrAt K F H v t (A i) ∧ (A i).Nodup ∧ ∀ a ∈ A i, Φ a = some trQ) ∧
  ∀ (i j : Nat) (v w : V) (t u : Tr), i ≠ j → env[i]? = some (.tr v t) → env[j]? = some (.tr w u) → ∀ a ∈ A i, a ∉ A j
theorem TrF.of {K : PySem.W.Frag} {env env' : List Sl} {σ σ' : St} {F F' H H' : Hp} {Φ Φ' : Reg} (h : TrF K env σ F H Φ) (xe : ∀ (i : Nat) (v : V) (t : Tr), env'[i]? = some (.tr v t) → env[i]? = some (.tr v t) ∧ σ'[i]? = σ[i]?) (xf : Ex F F') (xp : ∀ a, Φ a = some trQ → Φ' a = some trQ ∧ ∀ vs, H a = some (.lst vs) → H' a = some (.lst vs)) : TrF K env' σ' F' H' Φ' := by
  obtain ⟨A, h1, h2⟩ := h
  refine ⟨A, fun i v t hi => ?_, fun i j v w t u hne hi hj => h2 i j v w t u hne (xe i v t hi).1 (xe j w u hj).1⟩
  obtain ⟨a1, a2⟩ := xe i v t hi
  obtain ⟨b1, b2, b3, b4⟩ := h1 i v t a1
  exact ⟨by rw [a2]; exact b1, b2.up xf fun a ha vs hv => (xp a (b4 a ha)).2 vs hv, b3, fun a ha => (xp a (b4 a ha)).1⟩
theorem TrF.none {K : PySem.W.Frag} {env : List Sl} {σ : St} {F H : Hp} {Φ : Reg} (h : ∀ (i : Nat) (v : V) (t : Tr), env[i]? ≠ some (.tr v t)) : TrF K env σ F H Φ := ⟨fun _ => [], fun i v t hi => absurd hi (h i v t), fun i j v w t u _ hi => absurd hi (h i v t)⟩
/-- A: different new lists -/
def NewA (H F' H' : Hp) (A : List Addr) : Prop := A.Nodup ∧ ∀ a ∈ A, H a = none ∧ F' a = none ∧ ∃ vs, H' a = some (.lst vs) ∧ vs.length ≤ 1000000
/-- c: how often a list of a tree was made longer -/
structure Mes (K : PySem.W.Frag) (H0 : Hp) (env : List Sl) (σ : St) (F H : Hp) (Φ : Reg) (c : Nat) : Prop where
  reg : ∀ (a : Addr) (e n : Nat) (t : Ty), Φ a = some (e, n, t) → H0 a = none ∧ (e = 0 → ∃ vs, F a = some (.lst vs) ∧ vs.length ≤ n) ∧ (e ≠ 0 → F a = none) ∧ ∃ vs, H a = some (.lst vs) ∧ vs.length ≤ n + t.cnt c ∧ ∀ w ∈ vs, VT K F Φ e t w
  own : ∀ (i : Nat) (p : Addr), OwnS env σ i p → Φ p = none ∧ F p = none ∧ H0 p = none ∧ ∃ vs, H p = some (.lst vs)
  sep : ∀ (i j : Nat) (p : Addr), OwnS env σ i p → OwnS env σ j p → i = j
  mes : ∀ (i e c' : Nat) (t : Ty) (d : Option PyData), env[i]? = some (.mes e c' t d) → c' = c ∧ ∃ v, σ[i]? = some (some v) ∧ VT K F Φ e t v ∧ ∀ x, d = some x → Dq K (mixH F Φ e H) v x
  itm : ∀ (i : Nat) (a : Addr) (vs : List V) (e c' n : Nat) (t : Ty), env[i]? = some (.itm a vs e c' n t) → c' = c ∧ H a = some (.lst vs) ∧ Φ a = some (e, n, t) ∧ ∃ v, σ[i]? = some (some v) ∧ VT K F Φ e t v
  ownN : ∀ (i : Nat) (t : Ty) (ds : List PyData), env[i]? = some (.ownN t ds) → ∃ p vs, σ[i]? = some (some (.ref p)) ∧ H p = some (.lst vs) ∧ DqAll K F vs ds ∧ ∀ w ∈ vs, VT K F Φ 0 t w
  tab : ∀ (i e c' n m : Nat) (dss : List (List PyData)), env[i]? = some (.tab e c' n m dss) → c' = c ∧ e ≠ 0 ∧ ∃ q vs, σ[i]? = some (some (.ref q)) ∧ Φ q = some (e, n, .L m .any) ∧ H q = some (.lst vs) ∧ TabAt K F H Φ e m vs dss
  tr : TrF K env σ F H Φ
/-- no slot of env has anything of a tree -/
def plainE (env : List Sl) : Prop := ∀ (i : Nat) (s : Sl), env[i]? = some s → (∀ ds, s ≠ .own ds) ∧ (∀ e c t d, s ≠ .mes e c t d) ∧ (∀ t ds, s ≠ .ownN t ds) ∧ (∀ a vs e c n t, s ≠ .itm a vs e c n t) ∧ (∀ e c n m dss, s ≠ .tab e c n m dss) ∧ ∀ v t, s ≠ .tr v t
theorem Mes.start {K : PySem.W.Frag} {H0 : Hp} {env : List Sl} {σ : St} {F H : Hp} (h : plainE env) : Mes K H0 env σ F H (fun _ => none) 0 where
  reg := fun a e n t z => by cases z
  own := fun i p ho => by
    rcases ho with ⟨_, ⟨ds, h1⟩ | ⟨t, ds, h1⟩⟩
    · exact absurd rfl ((h i _ h1).1 ds)
    · exact absurd rfl ((h i _ h1).2.2.1 t ds)
  sep := fun i j p ho => by
    rcases ho with ⟨_, ⟨ds, h1⟩ | ⟨t, ds, h1⟩⟩
    · exact absurd rfl ((h i _ h1).1 ds)
    · exact absurd rfl ((h i _ h1).2.2.1 t ds)
  mes := fun i e c t d h1 => absurd rfl ((h i _ h1).2.1 e c t d)
  itm := fun i a vs e c n t h1 => absurd rfl ((h i _ h1).2.2.2.1 a vs e c n t)
  ownN := fun i t ds h1 => absurd rfl ((h i _ h1).2.2.1 t ds)
  tab := fun i e c n m dss h1 => absurd rfl ((h i _ h1).2.2.2.2.1 e c n m dss)
  tr := TrF.none fun i v t h1 => absurd rfl ((h i _ h1).2.2.2.2.2 v t)

structure Ok (K : PySem.W.Frag) (F0 H0 : Hp) (env : List Sl) (σ : St) (F H : Hp) : Prop where
  g : Grow F0 H0 F H
  dat : ∀ (i : Nat) (d : PyData), env[i]? = some (.dat d) → ∃ v, σ[i]? = some (some v) ∧ Dq K F v d
  own : ∀ (i : Nat) (ds : List PyData), env[i]? = some (.own ds) → ∃ p vs, σ[i]? = some (some (.ref p)) ∧ F p = none ∧ H0 p = none ∧ H p = some (.lst vs) ∧ DqAll K F vs ds
  sep : ∀ (i j : Nat) (ds es : List PyData) (p : Addr), env[i]? = some (.own ds) → env[j]? = some (.own es) → σ[i]? = some (some (.ref p)) → σ[j]? = some (some (.ref p)) → i = j
  scr : ∀ (i : Nat) (ns : List Int), env[i]? = some (.scr ns) → ∃ a, σ[i]? = some (some (.ref a)) ∧ SqL K F a (ns.map V.int)
  exc : ∀ (i : Nat) (a dd : Addr) (d : PyData), env[i]? = some (.exc a dd d) → ∃ v, σ[i]? = some (some (.ref a)) ∧ H dd = some (.xd [("at", v)]) ∧ Dq K F v d
  len : σ.length = env.length
  tre : ∃ Φ c, Mes K H0 env σ F H Φ c

theorem get_set_cases {α : Type} {l : List α} {i j : Nat} {x y : α} (h : (l.set i x)[j]? = some y) : (i = j ∧ i < l.length ∧ x = y) ∨ (i ≠ j ∧ l[j]? = some y) := by
  rw [List.getElem?_set] at h
  by_cases e : i = j
  · subst e
    rw [if_pos rfl] at h
    by_cases hl : i < l.length
    · rw [if_pos hl] at h
      exact .inl ⟨rfl, hl, by simpa using h⟩
    · rw [if_neg hl] at h; cases h
  · rw [if_neg e] at h
    exact .inr ⟨e, h⟩
section
variable {K : PySem.W.Frag} {H0 F H F' H' : Hp} {env : List Sl} {σ : St} {Φ Φ' : Reg} {c : Nat}
theorem Mes.mixUp {e : Nat} (m : Mes K H0 env σ F H Φ c) (xf : Ex F F') (xh : Ex H H') (xr : ExR Φ Φ') (fr : ∀ a e n t, Φ' a = some (e, n, t) → Φ a = none → H a = none) (xfh : Ex F H) : Ex (mixH F Φ e H) (mixH F' Φ' e H') := fun a o h => by
  unfold mixH at h ⊢
  cases ha : Φ a with
  | some q =>
    rw [ha] at h
    rw [xr a q ha]
    obtain ⟨e', n, t⟩ := q
    simp only at h ⊢
    split
    · rename_i hle; rw [if_pos hle] at h; exact xh a o h
    · rename_i hle; rw [if_neg hle] at h; exact xf a o h
  | none =>
    rw [ha] at h
    simp only at h
    cases hb : Φ' a with
    | none => exact xf a o h
    | some q =>
      obtain ⟨e', n, t⟩ := q
      have := fr a e' n t hb ha
      rw [xfh a o h] at this; cases this
theorem TabAt.up {e m : Nat} {vs : List V} {dss : List (List PyData)} (h : TabAt K F H Φ e m vs dss) (xf : Ex F F') (xr : ∀ p, Φ p = some (e, m, .any) → Φ' p = some (e, m, .any)) (xh : ∀ p ws, Φ p = some (e, m, .any) → H p = some (.lst ws) → H' p = some (.lst ws)) : TabAt K F' H' Φ' e m vs dss := by
  obtain ⟨h1, h2, h3⟩ := h
  refine ⟨h1, h2, fun k ds hk => ?_⟩
  obtain ⟨p, ws, a1, a2, a3, a4⟩ := h3 k ds hk
  exact ⟨p, ws, a1, xr p a2, xh p ws a2 a3, a4.up xf⟩
/-- everything grows, new nodes come to the tree -/
theorem Mes.growR (m : Mes K H0 env σ F H Φ c) (g : Grow F H F' H') (xfh : Ex F H) (hh : Ex H0 H) (xr : ExR Φ Φ') (fr : ∀ a e n t, Φ' a = some (e, n, t) → Φ a = none → H a = none ∧ (e = 0 → ∃ vs, F' a = some (.lst vs) ∧ vs.length ≤ n) ∧ (e ≠ 0 → F' a = none) ∧ ∃ vs, H' a = some (.lst vs) ∧ vs.length ≤ n + t.cnt c ∧ ∀ w ∈ vs, VT K F' Φ' e t w) : Mes K H0 env σ F' H' Φ' c where
  reg := fun a e n t h => by
    cases ha : Φ a with
    | none =>
      obtain ⟨h1, h2⟩ := fr a e n t h ha
      exact ⟨hh.back h1, h2⟩
    | some q =>
      have := xr a q ha
      rw [h] at this; cases this
      obtain ⟨h1, h2, h3, vs, h4, h6, h5⟩ := m.reg a e n t ha
      exact ⟨h1, fun z => by obtain ⟨ws, hw, hl⟩ := h2 z; exact ⟨ws, g.ff _ _ hw, hl⟩, fun z => g.old a (h3 z) (by rw [h4]; simp), vs, g.hh _ _ h4, h6, fun w hw => VT.up g.ff xr _ _ (h5 w hw)⟩
  own := fun i p ho => by
    obtain ⟨h1, h2, h3, vs, h4⟩ := m.own i p ho
    refine ⟨?_, g.old p h2 (by rw [h4]; simp), h3, vs, g.hh _ _ h4⟩
    cases hq : Φ' p with
    | none => rfl
    | some q =>
      have := (fr p q.1 q.2.1 q.2.2 hq h1).1
      rw [h4] at this; cases this
  sep := m.sep
  mes := fun i e c' t d h => by
    obtain ⟨hc, v, h1, h2, h3⟩ := m.mes i e c' t d h
    exact ⟨hc, v, h1, VT.up g.ff xr _ _ h2, fun x hx => (h3 x hx).up (m.mixUp g.ff g.hh xr (fun a e n t p q => (fr a e n t p q).1) xfh)⟩
  itm := fun i a vs e c' n t h => by
    obtain ⟨hc, h1, h2, v, h3, h4⟩ := m.itm i a vs e c' n t h
    exact ⟨hc, g.hh _ _ h1, xr _ _ h2, v, h3, VT.up g.ff xr _ _ h4⟩
  ownN := fun i t ds h => by
    obtain ⟨p, vs, h1, h4, h5, h6⟩ := m.ownN i t ds h
    exact ⟨p, vs, h1, g.hh _ _ h4, h5.up g.ff, fun w hw => VT.up g.ff xr _ _ (h6 w hw)⟩
  tab := fun i e c' n m' dss h => by
    obtain ⟨h1, h0, q, vs, h2, h3, h4, h5⟩ := m.tab i e c' n m' dss h
    exact ⟨h1, h0, q, vs, h2, xr _ _ h3, g.hh _ _ h4, h5.up g.ff (fun p z => xr _ _ z) (fun p ws _ z => g.hh _ _ z)⟩
  tr := m.tr.of (fun _ _ _ z => ⟨z, rfl⟩) g.ff fun a z => ⟨xr _ _ z, fun vs y => g.hh _ _ y⟩
theorem Mes.grow (m : Mes K H0 env σ F H Φ c) (g : Grow F H F' H') (xfh : Ex F H) (hh : Ex H0 H) : Mes K H0 env σ F' H' Φ c :=
  m.growR g xfh hh (fun _ _ h => h) fun a e n t h1 h2 => by rw [h1] at h2; cases h2
def plainS : Sl → Prop
  | .own _ | .mes _ _ _ _ | .ownN _ _ | .itm _ _ _ _ _ _ | .tab _ _ _ _ _ | .tr _ _ => False
  | _ => True
theorem OwnS.of_set {i j : Nat} {s : Sl} {x : Option V} {p : Addr} (hs : plainS s) (h : OwnS (env.set i s) (σ.set i x) j p) : i ≠ j ∧ OwnS env σ j p := by
  obtain ⟨h1, h2⟩ := h
  have hne : i ≠ j := fun z => by
    subst z
    rcases h2 with ⟨ds, h2⟩ | ⟨t, ds, h2⟩
    · rcases get_set_cases h2 with ⟨_, _, q⟩ | ⟨q, _⟩
      · subst q; exact hs
      · exact q rfl
    · rcases get_set_cases h2 with ⟨_, _, q⟩ | ⟨q, _⟩
      · subst q; exact hs
      · exact q rfl
  rw [List.getElem?_set_ne hne] at h1 h2
  exact ⟨hne, h1, h2⟩
theorem OwnS.of_setE {i j : Nat} {s : Sl} {p : Addr} (hs : plainS s) (h : OwnS (env.set i s) σ j p) : i ≠ j ∧ OwnS env σ j p := by
  obtain ⟨h1, h2⟩ := h
  have hne : i ≠ j := fun z => by
    subst z
    rcases h2 with ⟨ds, h2⟩ | ⟨t, ds, h2⟩
    · rcases get_set_cases h2 with ⟨_, _, q⟩ | ⟨q, _⟩
      · subst q; exact hs
      · exact q rfl
    · rcases get_set_cases h2 with ⟨_, _, q⟩ | ⟨q, _⟩
      · subst q; exact hs
      · exact q rfl
  rw [List.getElem?_set_ne hne] at h2
  exact ⟨hne, h1, h2⟩
/-- a plain value into a slot -/
theorem Mes.setX {i : Nat} {s : Sl} {x : Option V} (m : Mes K H0 env σ F H Φ c) (hs : plainS s) : Mes K H0 (env.set i s) (σ.set i x) F H Φ c where
  reg := m.reg
  own := fun j p h => m.own j p (OwnS.of_set hs h).2
  sep := fun j k p h1 h2 => m.sep j k p (OwnS.of_set hs h1).2 (OwnS.of_set hs h2).2
  mes := fun j e c' t d h => by
    rcases get_set_cases h with ⟨_, _, q⟩ | ⟨ne, q⟩
    · subst q; exact hs.elim
    · rw [List.getElem?_set_ne ne]; exact m.mes j e c' t d q
  itm := fun j a vs e c' n t h => by
    rcases get_set_cases h with ⟨_, _, q⟩ | ⟨ne, q⟩
    · subst q; exact hs.elim
    · rw [List.getElem?_set_ne ne]; exact m.itm j a vs e c' n t q
  ownN := fun j t ds h => by
    rcases get_set_cases h with ⟨_, _, q⟩ | ⟨ne, q⟩
    · subst q; exact hs.elim
    · rw [List.getElem?_set_ne ne]; exact m.ownN j t ds q
  tab := fun j e c' n m' dss h => by
    rcases get_set_cases h with ⟨_, _, q⟩ | ⟨ne, q⟩
    · subst q; exact hs.elim
    · rw [List.getElem?_set_ne ne]; exact m.tab j e c' n m' dss q
  tr := m.tr.of (fun j v t h => by
    rcases get_set_cases h with ⟨_, _, q⟩ | ⟨ne, q⟩
    · subst q; exact hs.elim
    · exact ⟨q, List.getElem?_set_ne ne⟩) (Ex.refl _) fun a z => ⟨z, fun _ y => y⟩
theorem Mes.setE {i : Nat} {s : Sl} (m : Mes K H0 env σ F H Φ c) (hs : plainS s) : Mes K H0 (env.set i s) σ F H Φ c where
  reg := m.reg
  own := fun j p h => m.own j p (OwnS.of_setE hs h).2
  sep := fun j k p h1 h2 => m.sep j k p (OwnS.of_setE hs h1).2 (OwnS.of_setE hs h2).2
  mes := fun j e c' t d h => by
    rcases get_set_cases h with ⟨_, _, q⟩ | ⟨ne, q⟩
    · subst q; exact hs.elim
    · exact m.mes j e c' t d q
  itm := fun j a vs e c' n t h => by
    rcases get_set_cases h with ⟨_, _, q⟩ | ⟨ne, q⟩
    · subst q; exact hs.elim
    · exact m.itm j a vs e c' n t q
  ownN := fun j t ds h => by
    rcases get_set_cases h with ⟨_, _, q⟩ | ⟨ne, q⟩
    · subst q; exact hs.elim
    · exact m.ownN j t ds q
  tab := fun j e c' n m' dss h => by
    rcases get_set_cases h with ⟨_, _, q⟩ | ⟨ne, q⟩
    · subst q; exact hs.elim
    · exact m.tab j e c' n m' dss q
  tr := m.tr.of (fun j v t h => by
    rcases get_set_cases h with ⟨_, _, q⟩ | ⟨ne, q⟩
    · subst q; exact hs.elim
    · exact ⟨q, rfl⟩) (Ex.refl _) fun a z => ⟨z, fun _ y => y⟩
/-- s is a list that its slot alone knows, and holds vs -/
def ownSl (K : PySem.W.Frag) (F : Hp) (Φ : Reg) (vs : List V) (s : Sl) : Prop := (∃ ds, s = .own ds) ∨ ∃ t ds, s = .ownN t ds ∧ DqAll K F vs ds ∧ ∀ w ∈ vs, VT K F Φ 0 t w
/-- a new list into a slot -/
theorem Mes.newOwn {i : Nat} {s : Sl} {p : Addr} {vs : List V} (m : Mes K H0 env σ F H Φ c) (hi : i < σ.length) (hp : Φ p = none) (hn : ∀ j, ¬ OwnS env σ j p) (hf : F p = none) (h0 : H0 p = none) (hh : H p = some (.lst vs)) (hs : ownSl K F Φ vs s) : Mes K H0 (env.set i s) (σ.set i (some (.ref p))) F H Φ c := by
  have key : ∀ j q, OwnS (env.set i s) (σ.set i (some (.ref p))) j q → (j = i ∧ q = p) ∨ (i ≠ j ∧ OwnS env σ j q) := fun j q h => by
    by_cases e : i = j
    · subst e
      have := h.1
      rw [List.getElem?_set_self hi] at this
      cases this
      exact .inl ⟨rfl, rfl⟩
    · refine .inr ⟨e, ?_⟩
      obtain ⟨h1, h2⟩ := h
      rw [List.getElem?_set_ne e] at h1 h2
      exact ⟨h1, h2⟩
  refine ⟨m.reg, fun j q h => ?_, fun j k q h1 h2 => ?_, fun j e c' t d h => ?_, fun j a ws e c' n t h => ?_, fun j t ds h => ?_, fun j e c' n m' dss h => ?_, m.tr.of (fun j v t h => ?_) (Ex.refl _) fun a z => ⟨z, fun _ y => y⟩⟩
  · rcases key j q h with ⟨rfl, rfl⟩ | ⟨_, h⟩
    · exact ⟨hp, hf, h0, vs, hh⟩
    · exact m.own j q h
  · rcases key j q h1 with ⟨e1, e2⟩ | ⟨_, g1⟩
    · rcases key k _ h2 with ⟨e3, _⟩ | ⟨_, g2⟩
      · rw [e1, e3]
      · exact absurd (e2 ▸ g2) (hn k)
    · rcases key k _ h2 with ⟨_, e4⟩ | ⟨_, g2⟩
      · exact absurd (e4 ▸ g1) (hn j)
      · exact m.sep j k q g1 g2
  · rcases get_set_cases h with ⟨_, _, q⟩ | ⟨ne, q⟩
    · subst q
      rcases hs with ⟨ds, z⟩ | ⟨_, _, z, _⟩ <;> cases z
    · rw [List.getElem?_set_ne ne]; exact m.mes j e c' t d q
  · rcases get_set_cases h with ⟨_, _, q⟩ | ⟨ne, q⟩
    · subst q
      rcases hs with ⟨ds, z⟩ | ⟨_, _, z, _⟩ <;> cases z
    · rw [List.getElem?_set_ne ne]; exact m.itm j a ws e c' n t q
  · rcases get_set_cases h with ⟨z0, _, q⟩ | ⟨ne, q⟩
    · subst z0 q
      rcases hs with ⟨ds, z⟩ | ⟨_, _, z, q1, q2⟩
      · cases z
      · cases z
        exact ⟨p, vs, List.getElem?_set_self hi, hh, q1, q2⟩
    · rw [List.getElem?_set_ne ne]; exact m.ownN j t ds q
  · rcases get_set_cases h with ⟨_, _, q⟩ | ⟨ne, q⟩
    · subst q
      rcases hs with ⟨ds, z⟩ | ⟨_, _, z, _⟩ <;> cases z
    · rw [List.getElem?_set_ne ne]; exact m.tab j e c' n m' dss q
  · rcases get_set_cases h with ⟨_, _, q⟩ | ⟨ne, q⟩
    · subst q
      rcases hs with ⟨ds, z⟩ | ⟨_, _, z, _⟩ <;> cases z
    · exact ⟨q, List.getElem?_set_ne ne⟩
/-- the list of a slot changes -/
theorem Mes.put {i : Nat} {s : Sl} {p : Addr} {vs : List V} (m : Mes K H0 env σ F H Φ c) (ho : OwnS env σ i p) (hs : ownSl K F Φ vs s) : Mes K H0 (env.set i s) σ F (upd H p (.lst vs)) Φ c := by
  obtain ⟨hp, hf, h0, us, hh⟩ := m.own i p ho
  have key : ∀ j q, OwnS (env.set i s) σ j q → OwnS env σ j q := fun j q h => by
    by_cases e : i = j
    · subst e
      have h1 := h.1
      have h2 := ho.1
      rw [h1] at h2; cases h2
      exact ho
    · obtain ⟨h1, h2⟩ := h
      rw [List.getElem?_set_ne e] at h2
      exact ⟨h1, h2⟩
  have ne_of : ∀ a q, Φ a = some q → a ≠ p := fun a q h z => by rw [z, hp] at h; cases h
  refine ⟨fun a e n t h => ?_, fun j q h => ?_, fun j k q h1 h2 => m.sep j k q (key _ _ h1) (key _ _ h2), fun j e c' t d h => ?_, fun j a ws e c' n t h => ?_, fun j t ds h => ?_, fun j e c' n m' dss h => ?_, m.tr.of (fun j v t h => ?_) (Ex.refl _) fun a z => ⟨z, fun _ y => by rw [upd_ne (ne_of _ _ z)]; exact y⟩⟩
  · rw [upd_ne (ne_of _ _ h)]; exact m.reg a e n t h
  · obtain ⟨a1, a2, a3, ws, a4⟩ := m.own j q (key _ _ h)
    by_cases e : q = p
    · subst e; exact ⟨a1, a2, a3, vs, upd_same⟩
    · exact ⟨a1, a2, a3, ws, by rw [upd_ne e]; exact a4⟩
  · rcases get_set_cases h with ⟨_, _, q⟩ | ⟨ne, q⟩
    · subst q
      rcases hs with ⟨ds, z⟩ | ⟨_, _, z, _⟩ <;> cases z
    · obtain ⟨hc, v, b1, b2, b3⟩ := m.mes j e c' t d q
      refine ⟨hc, v, b1, b2, fun x hx => (b3 x hx).up fun a o h => ?_⟩
      unfold mixH at h ⊢
      cases ha : Φ a with
      | none => rw [ha] at h; exact h
      | some z => rw [ha] at h; rw [upd_ne (ne_of _ _ ha)]; exact h
  · rcases get_set_cases h with ⟨_, _, q⟩ | ⟨ne, q⟩
    · subst q
      rcases hs with ⟨ds, z⟩ | ⟨_, _, z, _⟩ <;> cases z
    · obtain ⟨hc, b1, b2, b3⟩ := m.itm j a ws e c' n t q
      exact ⟨hc, by rw [upd_ne (ne_of _ _ b2)]; exact b1, b2, b3⟩
  · rcases get_set_cases h with ⟨z0, _, q⟩ | ⟨ne, q⟩
    · subst z0 q
      rcases hs with ⟨ds, z⟩ | ⟨_, _, z, q1, q2⟩
      · cases z
      · cases z
        exact ⟨p, vs, ho.1, upd_same, q1, q2⟩
    · obtain ⟨q', ws, b1, b2, b3, b4⟩ := m.ownN j t ds q
      have hne : q' ≠ p := fun z => by
        subst z
        exact ne (m.sep i j q' ho ⟨b1, .inr ⟨t, ds, q⟩⟩)
      exact ⟨q', ws, b1, by rw [upd_ne hne]; exact b2, b3, b4⟩
  · rcases get_set_cases h with ⟨_, _, q⟩ | ⟨ne, q⟩
    · subst q
      rcases hs with ⟨ds, z⟩ | ⟨_, _, z, _⟩ <;> cases z
    · obtain ⟨b1, b0, q', vs', b2, b3, b4, b5⟩ := m.tab j e c' n m' dss q
      exact ⟨b1, b0, q', vs', b2, b3, by rw [upd_ne (ne_of _ _ b3)]; exact b4, b5.up (Ex.refl _) (fun _ z => z) (fun p ws z z2 => by rw [upd_ne (ne_of _ _ z)]; exact z2)⟩
  · rcases get_set_cases h with ⟨_, _, q⟩ | ⟨ne, q⟩
    · subst q
      rcases hs with ⟨ds, z⟩ | ⟨_, _, z, _⟩ <;> cases z
    · exact ⟨q, rfl⟩
/-- the list of a slot is given away -/
theorem Mes.freeze {i : Nat} {s : Sl} {p : Addr} {vs : List V} (m : Mes K H0 env σ F H Φ c) (ho : OwnS env σ i p) (hh : H p = some (.lst vs)) (hs : plainS s) : Mes K H0 (env.set i s) σ (upd F p (.lst vs)) H Φ c := by
  obtain ⟨hp, hf, h0, us, hh'⟩ := m.own i p ho
  have hx : Ex F (upd F p (.lst vs)) := Ex.new hf
  have ne_of : ∀ a q, Φ a = some q → a ≠ p := fun a q h z => by rw [z, hp] at h; cases h
  have key : ∀ j q, OwnS (env.set i s) σ j q → OwnS env σ j q ∧ q ≠ p := fun j q h => by
    obtain ⟨h1, h2⟩ := OwnS.of_setE hs h
    exact ⟨h2, fun z => h1 (m.sep i j p ho (z ▸ h2))⟩
  refine ⟨fun a e n t h => ?_, fun j q h => ?_, fun j k q h1 h2 => m.sep j k q (key _ _ h1).1 (key _ _ h2).1, fun j e c' t d h => ?_, fun j a ws e c' n t h => ?_, fun j t ds h => ?_, fun j e c' n m' dss h => ?_, m.tr.of (fun j v t h => ?_) hx fun a z => ⟨z, fun _ y => y⟩⟩
  · obtain ⟨h1, h2, h3, ws, h4, h6, h5⟩ := m.reg a e n t h
    exact ⟨h1, fun z => by obtain ⟨us, hu, hl⟩ := h2 z; exact ⟨us, hx _ _ hu, hl⟩, fun z => by rw [upd_ne (ne_of _ _ h)]; exact h3 z, ws, h4, h6, fun w hw => VT.up hx (fun _ _ z => z) _ _ (h5 w hw)⟩
  · obtain ⟨k1, k2⟩ := key j q h
    obtain ⟨a1, a2, a3⟩ := m.own j q k1
    exact ⟨a1, by rw [upd_ne k2]; exact a2, a3⟩
  · rcases get_set_cases h with ⟨_, _, q⟩ | ⟨ne, q⟩
    · subst q; exact hs.elim
    · obtain ⟨hc, v, b1, b2, b3⟩ := m.mes j e c' t d q
      refine ⟨hc, v, b1, VT.up hx (fun _ _ z => z) _ _ b2, fun x hx' => (b3 x hx').up fun a o h => ?_⟩
      unfold mixH at h ⊢
      cases ha : Φ a with
      | none => rw [ha] at h; exact hx _ _ h
      | some z =>
        rw [ha] at h
        simp only at h ⊢
        split
        · rename_i hle; rw [if_pos hle] at h; exact h
        · rename_i hle; rw [if_neg hle] at h; exact hx _ _ h
  · rcases get_set_cases h with ⟨_, _, q⟩ | ⟨ne, q⟩
    · subst q; exact hs.elim
    · obtain ⟨hc, b1, b2, v, b3, b4⟩ := m.itm j a ws e c' n t q
      exact ⟨hc, b1, b2, v, b3, VT.up hx (fun _ _ z => z) _ _ b4⟩
  · rcases get_set_cases h with ⟨_, _, q⟩ | ⟨ne, q⟩
    · subst q; exact hs.elim
    · obtain ⟨q', ws, b1, b2, b3, b4⟩ := m.ownN j t ds q
      exact ⟨q', ws, b1, b2, b3.up hx, fun w hw => VT.up hx (fun _ _ z => z) _ _ (b4 w hw)⟩
  · rcases get_set_cases h with ⟨_, _, q⟩ | ⟨ne, q⟩
    · subst q; exact hs.elim
    · obtain ⟨b1, b0, q', vs', b2, b3, b4, b5⟩ := m.tab j e c' n m' dss q
      exact ⟨b1, b0, q', vs', b2, b3, b4, b5.up hx (fun _ z => z) (fun _ _ _ z => z)⟩
  · rcases get_set_cases h with ⟨_, _, q⟩ | ⟨ne, q⟩
    · subst q; exact hs.elim
    · exact ⟨q, rfl⟩
theorem Mes.weak {env' : List Sl} (m : Mes K H0 env σ F H Φ c) (h : ∀ (i : Nat) (s : Sl), env'[i]? = some s → s ≠ .no → env[i]? = some s) : Mes K H0 env' σ F H Φ c := by
  have key : ∀ j q, OwnS env' σ j q → OwnS env σ j q := fun j q ⟨h1, h2⟩ => ⟨h1, h2.imp (fun ⟨ds, z⟩ => ⟨ds, h _ _ z (by intro y; cases y)⟩) fun ⟨t, ds, z⟩ => ⟨t, ds, h _ _ z (by intro y; cases y)⟩⟩
  exact ⟨m.reg, fun j q h => m.own j q (key _ _ h), fun j k q h1 h2 => m.sep j k q (key _ _ h1) (key _ _ h2), fun j e c' t d z => m.mes j e c' t d (h _ _ z (by intro y; cases y)), fun j a vs e c' n t z => m.itm j a vs e c' n t (h _ _ z (by intro y; cases y)),
    fun j t ds z => m.ownN j t ds (h _ _ z (by intro y; cases y)), fun j e c' n m' dss z => m.tab j e c' n m' dss (h _ _ z (by intro y; cases y)), m.tr.of (fun j v t z => ⟨h _ _ z (by intro y; cases y), rfl⟩) (Ex.refl _) fun a z => ⟨z, fun _ y => y⟩⟩
end
section
variable {K : PySem.W.Frag} {F0 H0 F H F' H' : Hp} {env : List Sl} {σ : St} {Φ : Reg} {c : Nat}
theorem Ok.grow (o : Ok K F0 H0 env σ F H) (g : Grow F H F' H') : Ok K F0 H0 env σ F' H' where
  g := o.g.trans g
  dat := fun i d e => by
    obtain ⟨v, a, b⟩ := o.dat i d e
    exact ⟨v, a, b.up g.ff⟩
  own := fun i ds e => by
    obtain ⟨p, vs, a, b, c, d, f⟩ := o.own i ds e
    exact ⟨p, vs, a, g.old p b (by rw [d]; simp), c, g.hh _ _ d, f.up g.ff⟩
  sep := o.sep
  scr := fun i ns e => by
    obtain ⟨a, h1, h2⟩ := o.scr i ns e
    exact ⟨a, h1, ex_l g.ff h2⟩
  exc := fun i a dd d e => by
    obtain ⟨v, h1, h2, h3⟩ := o.exc i a dd d e
    exact ⟨v, h1, g.hh _ _ h2, h3.up g.ff⟩
  len := o.len
  tre := by
    obtain ⟨Φ, c, m⟩ := o.tre
    exact ⟨Φ, c, m.grow g o.g.fh o.g.hh⟩
theorem Ok.setDat (o : Ok K F0 H0 env σ F H) {i : Nat} {v : V} {d : PyData} (hd : Dq K F v d) : Ok K F0 H0 (env.set i (.dat d)) (σ.set i (some v)) F H where
  g := o.g
  dat := fun j e h => by
    rcases get_set_cases h with ⟨rfl, hl, q⟩ | ⟨ne, q⟩
    · cases q
      exact ⟨v, by rw [List.getElem?_set_self (by rw [o.len]; exact hl)], hd⟩
    · obtain ⟨w, a, b⟩ := o.dat j e q
      exact ⟨w, by rw [List.getElem?_set_ne ne]; exact a, b⟩
  own := fun j e h => by
    rcases get_set_cases h with ⟨rfl, hl, q⟩ | ⟨ne, q⟩
    · cases q
    · obtain ⟨p, vs, a, r⟩ := o.own j e q
      exact ⟨p, vs, by rw [List.getElem?_set_ne ne]; exact a, r⟩
  sep := fun j k ds es p h1 h2 h3 h4 => by
    rcases get_set_cases h1 with ⟨rfl, hl, q⟩ | ⟨ne, q⟩
    · cases q
    · rcases get_set_cases h2 with ⟨rfl, hl, q'⟩ | ⟨ne', q'⟩
      · cases q'
      · rw [List.getElem?_set_ne ne] at h3
        rw [List.getElem?_set_ne ne'] at h4
        exact o.sep j k ds es p q q' h3 h4
  scr := fun j e h => by
    rcases get_set_cases h with ⟨rfl, hl, q⟩ | ⟨ne, q⟩
    · cases q
    · obtain ⟨p, a, r⟩ := o.scr j e q
      exact ⟨p, by rw [List.getElem?_set_ne ne]; exact a, r⟩
  exc := fun j a2 dd2 e h => by
    rcases get_set_cases h with ⟨rfl, hl, q⟩ | ⟨ne, q⟩
    · cases q
    · obtain ⟨p, a, r⟩ := o.exc j a2 dd2 e q
      exact ⟨p, by rw [List.getElem?_set_ne ne]; exact a, r⟩
  len := by rw [List.length_set, List.length_set, o.len]
  tre := by
    obtain ⟨Φ, c, m⟩ := o.tre
    exact ⟨Φ, c, m.setX trivial⟩
theorem Ok.setNo (o : Ok K F0 H0 env σ F H) {i : Nat} {x : Option V} : Ok K F0 H0 (env.set i .no) (σ.set i x) F H where
  g := o.g
  dat := fun j e h => by
    rcases get_set_cases h with ⟨rfl, hl, q⟩ | ⟨ne, q⟩
    · cases q
    · obtain ⟨w, a, b⟩ := o.dat j e q
      exact ⟨w, by rw [List.getElem?_set_ne ne]; exact a, b⟩
  own := fun j e h => by
    rcases get_set_cases h with ⟨rfl, hl, q⟩ | ⟨ne, q⟩
    · cases q
    · obtain ⟨p, vs, a, r⟩ := o.own j e q
      exact ⟨p, vs, by rw [List.getElem?_set_ne ne]; exact a, r⟩
  sep := fun j k ds es p h1 h2 h3 h4 => by
    rcases get_set_cases h1 with ⟨rfl, hl, q⟩ | ⟨ne, q⟩
    · cases q
    · rcases get_set_cases h2 with ⟨rfl, hl, q'⟩ | ⟨ne', q'⟩
      · cases q'
      · rw [List.getElem?_set_ne ne] at h3
        rw [List.getElem?_set_ne ne'] at h4
        exact o.sep j k ds es p q q' h3 h4
  scr := fun j e h => by
    rcases get_set_cases h with ⟨rfl, hl, q⟩ | ⟨ne, q⟩
    · cases q
    · obtain ⟨p, a, r⟩ := o.scr j e q
      exact ⟨p, by rw [List.getElem?_set_ne ne]; exact a, r⟩
  exc := fun j a2 dd2 e h => by
    rcases get_set_cases h with ⟨rfl, hl, q⟩ | ⟨ne, q⟩
    · cases q
    · obtain ⟨p, a, r⟩ := o.exc j a2 dd2 e q
      exact ⟨p, by rw [List.getElem?_set_ne ne]; exact a, r⟩
  len := by rw [List.length_set, List.length_set, o.len]
  tre := by
    obtain ⟨Φ, c, m⟩ := o.tre
    exact ⟨Φ, c, m.setX trivial⟩
theorem Ok.noOwn (o : Ok K F0 H0 env σ F H) {p : Addr} (hp : H p = none) : ∀ j, ¬ OwnS env σ j p := fun j h => by
  obtain ⟨Φ, c, m⟩ := o.tre
  obtain ⟨_, _, _, vs, h1⟩ := m.own j p h
  rw [hp] at h1; cases h1
/-- a new list goes into a slot -/
theorem Ok.setOwn_ (o : Ok K F0 H0 env σ F H) {i : Nat} {p : Addr} {vs : List V} {ds : List PyData} (hf : F p = none) (h0 : H0 p = none) (hh : H p = some (.lst vs)) (hd : DqAll K F vs ds)
    (hn : ∀ (j : Nat) (es : List PyData), env[j]? = some (.own es) → σ[j]? ≠ some (some (.ref p))) (ht : ∃ Φ c, Mes K H0 (env.set i (.own ds)) (σ.set i (some (.ref p))) F H Φ c) : Ok K F0 H0 (env.set i (.own ds)) (σ.set i (some (.ref p))) F H where
  g := o.g
  dat := fun j e h => by
    rcases get_set_cases h with ⟨rfl, hl, q⟩ | ⟨ne, q⟩
    · cases q
    · obtain ⟨w, a, b⟩ := o.dat j e q
      exact ⟨w, by rw [List.getElem?_set_ne ne]; exact a, b⟩
  own := fun j e h => by
    rcases get_set_cases h with ⟨rfl, hl, q⟩ | ⟨ne, q⟩
    · cases q
      exact ⟨p, vs, by rw [List.getElem?_set_self (by rw [o.len]; exact hl)], hf, h0, hh, hd⟩
    · obtain ⟨p, vs, a, r⟩ := o.own j e q
      exact ⟨p, vs, by rw [List.getElem?_set_ne ne]; exact a, r⟩
  sep := fun j k es fs q h1 h2 h3 h4 => by
    rcases get_set_cases h1 with ⟨rfl, hl, q1⟩ | ⟨ne, q1⟩
    · rcases get_set_cases h2 with ⟨rfl, hl', q2⟩ | ⟨ne', q2⟩
      · rfl
      · rw [List.getElem?_set_self (by rw [o.len]; exact hl)] at h3
        cases h3
        rw [List.getElem?_set_ne ne'] at h4
        exact absurd h4 (hn _ _ q2)
    · rcases get_set_cases h2 with ⟨rfl, hl', q2⟩ | ⟨ne', q2⟩
      · rw [List.getElem?_set_self (by rw [o.len]; exact hl')] at h4
        cases h4
        rw [List.getElem?_set_ne ne] at h3
        exact absurd h3 (hn _ _ q1)
      · rw [List.getElem?_set_ne ne] at h3
        rw [List.getElem?_set_ne ne'] at h4
        exact o.sep j k es fs q q1 q2 h3 h4
  scr := fun j e h => by
    rcases get_set_cases h with ⟨rfl, hl, q⟩ | ⟨ne, q⟩
    · cases q
    · obtain ⟨p, a, r⟩ := o.scr j e q
      exact ⟨p, by rw [List.getElem?_set_ne ne]; exact a, r⟩
  exc := fun j a2 dd2 e h => by
    rcases get_set_cases h with ⟨rfl, hl, q⟩ | ⟨ne, q⟩
    · cases q
    · obtain ⟨p, a, r⟩ := o.exc j a2 dd2 e q
      exact ⟨p, by rw [List.getElem?_set_ne ne]; exact a, r⟩
  len := by rw [List.length_set, List.length_set, o.len]
  tre := ht
theorem Mes.free (m : Mes K H0 env σ F H Φ c) {p : Addr} (hp : H p = none) : Φ p = none := by
  cases h : Φ p with
  | none => rfl
  | some q =>
    obtain ⟨_, _, _, vs, h1, _⟩ := m.reg p q.1 q.2.1 q.2.2 h
    rw [hp] at h1; cases h1
theorem set_big {α : Type} {l : List α} {i : Nat} {x : α} (h : ¬ i < l.length) : l.set i x = l := by
  rw [List.set_eq_of_length_le (by omega)]
theorem Ok.newOwn {F1 H1 : Hp} (o : Ok K F0 H0 env σ F H) (g : Grow F H F1 H1) {i : Nat} {p : Addr} {vs : List V} {ds : List PyData} (hp : H p = none) (hf : F1 p = none) (hh : H1 p = some (.lst vs)) (hd : DqAll K F1 vs ds) : Ok K F0 H0 (env.set i (.own ds)) (σ.set i (some (.ref p))) F1 H1 := by
  have o1 := o.grow g
  by_cases hi : i < σ.length
  · refine o1.setOwn_ hf (o.g.hh.back hp) hh hd (fun j es h z => o.noOwn hp j ⟨z, .inl ⟨es, h⟩⟩) ?_
    obtain ⟨Φ, c, m⟩ := o.tre
    exact ⟨Φ, c, (m.grow g o.g.fh o.g.hh).newOwn hi (m.free hp) (o.noOwn hp) hf (o.g.hh.back hp) hh (.inl ⟨ds, rfl⟩)⟩
  · rw [set_big hi, set_big (by rw [← o.len]; exact hi)]
    exact o1
/-- the list of a slot changes -/
theorem Ok.put (o : Ok K F0 H0 env σ F H) {i : Nat} {ds es : List PyData} {p : Addr} {vs : List V} (hi : env[i]? = some (.own ds)) (hs : σ[i]? = some (some (.ref p))) (hd : DqAll K F vs es) :
    Ok K F0 H0 (env.set i (.own es)) σ F (upd H p (.lst vs)) := by
  obtain ⟨p', vs', a, b, c, d, f⟩ := o.own i ds hi
  rw [hs] at a; cases a
  refine ⟨o.g.put c b, fun j e h => ?_, fun j e h => ?_, fun j k es fs q h1 h2 h3 h4 => ?_, fun j e h => ?_, fun j a2 dd2 e h => ?_, by rw [List.length_set, o.len], by
    obtain ⟨Φ, c, m⟩ := o.tre
    exact ⟨Φ, c, m.put ⟨hs, .inl ⟨ds, hi⟩⟩ (.inl ⟨es, rfl⟩)⟩⟩
  · rcases get_set_cases h with ⟨rfl, hl, q⟩ | ⟨ne, q⟩
    · cases q
    · exact o.dat j e q
  · rcases get_set_cases h with ⟨rfl, hl, q⟩ | ⟨ne, q⟩
    · cases q
      exact ⟨p, vs, hs, b, c, upd_same, hd⟩
    · obtain ⟨p2, vs2, a2, b2, c2, d2, f2⟩ := o.own j e q
      have hne : p2 ≠ p := fun z => by
        subst z
        exact ne (o.sep i j _ _ _ hi q hs a2)
      exact ⟨p2, vs2, a2, b2, c2, by rw [upd_ne hne]; exact d2, f2⟩
  · rcases get_set_cases h1 with ⟨rfl, hl, q1⟩ | ⟨ne, q1⟩
    · rcases get_set_cases h2 with ⟨rfl, hl, q2⟩ | ⟨ne2, q2⟩
      · rfl
      · exact o.sep _ _ _ _ _ hi q2 h3 h4
    · rcases get_set_cases h2 with ⟨rfl, hl, q2⟩ | ⟨ne2, q2⟩
      · exact o.sep _ _ _ _ _ q1 hi h3 h4
      · exact o.sep _ _ _ _ _ q1 q2 h3 h4
  · rcases get_set_cases h with ⟨rfl, hl, q⟩ | ⟨ne, q⟩
    · cases q
    · exact o.scr j e q
  · rcases get_set_cases h with ⟨rfl, hl, q⟩ | ⟨ne, q⟩
    · cases q
    · obtain ⟨v2, a3, b3, c3⟩ := o.exc j a2 dd2 e q
      exact ⟨v2, a3, by rw [upd_ne (fun z => by rw [z, d] at b3; cases b3)]; exact b3, c3⟩
/-- the list of a slot is given away: from now on it is data -/
theorem Ok.freeze (o : Ok K F0 H0 env σ F H) {i : Nat} {ds : List PyData} (hi : env[i]? = some (.own ds)) : ∃ F', Grow F0 H0 F' H ∧ Ex F F' ∧ Ok K F0 H0 (env.set i (.dat (.list ds))) σ F' H := by
  obtain ⟨p, vs, a, b, c, d, f⟩ := o.own i ds hi
  have hx : Ex F (upd F p (.lst vs)) := Ex.new b
  refine ⟨upd F p (.lst vs), o.g.frz c b d, hx, o.g.frz c b d, fun j e h => ?_, fun j e h => ?_, fun j k es fs q h1 h2 h3 h4 => ?_, fun j e h => ?_, fun j a2 dd2 e h => ?_, by rw [List.length_set, o.len], by
    obtain ⟨Φ, c, m⟩ := o.tre
    exact ⟨Φ, c, m.freeze ⟨a, .inl ⟨ds, hi⟩⟩ d trivial⟩⟩
  · rcases get_set_cases h with ⟨rfl, hl, q⟩ | ⟨ne, q⟩
    · cases q
      exact ⟨.ref p, a, .lst upd_same (f.up hx)⟩
    · obtain ⟨w, a, b⟩ := o.dat j e q
      exact ⟨w, a, b.up hx⟩
  · rcases get_set_cases h with ⟨rfl, hl, q⟩ | ⟨ne, q⟩
    · cases q
    · obtain ⟨p2, vs2, a2, b2, c2, d2, f2⟩ := o.own j e q
      have hne : p2 ≠ p := fun z => by
        subst z
        exact ne (o.sep i j _ _ _ hi q a a2)
      exact ⟨p2, vs2, a2, by rw [upd_ne hne]; exact b2, c2, d2, f2.up hx⟩
  · rcases get_set_cases h1 with ⟨rfl, hl, q1⟩ | ⟨ne, q1⟩
    · cases q1
    · rcases get_set_cases h2 with ⟨rfl, hl, q2⟩ | ⟨ne2, q2⟩
      · cases q2
      · exact o.sep _ _ _ _ _ q1 q2 h3 h4
  · rcases get_set_cases h with ⟨rfl, hl, q⟩ | ⟨ne, q⟩
    · cases q
    · obtain ⟨w, a, b⟩ := o.scr j e q
      exact ⟨w, a, ex_l hx b⟩
  · rcases get_set_cases h with ⟨rfl, hl, q⟩ | ⟨ne, q⟩
    · cases q
    · obtain ⟨v2, a3, b3, c3⟩ := o.exc j a2 dd2 e q
      exact ⟨v2, a3, b3, c3.up hx⟩
/-- a slot is forgotten -/
theorem Ok.forget (o : Ok K F0 H0 env σ F H) (i : Nat) : Ok K F0 H0 (env.set i .no) σ F H := by
  refine ⟨o.g, fun j e h => ?_, fun j e h => ?_, fun j k es fs q h1 h2 h3 h4 => ?_, fun j e h => ?_, fun j a2 dd2 e h => ?_, by rw [List.length_set, o.len], by
    obtain ⟨Φ, c, m⟩ := o.tre
    exact ⟨Φ, c, m.setE trivial⟩⟩
  · rcases get_set_cases h with ⟨rfl, hl, q⟩ | ⟨ne, q⟩
    · cases q
    · exact o.dat j e q
  · rcases get_set_cases h with ⟨rfl, hl, q⟩ | ⟨ne, q⟩
    · cases q
    · exact o.own j e q
  · rcases get_set_cases h1 with ⟨rfl, hl, q1⟩ | ⟨ne, q1⟩
    · cases q1
    · rcases get_set_cases h2 with ⟨rfl, hl, q2⟩ | ⟨ne2, q2⟩
      · cases q2
      · exact o.sep _ _ _ _ _ q1 q2 h3 h4
  · rcases get_set_cases h with ⟨rfl, hl, q⟩ | ⟨ne, q⟩
    · cases q
    · exact o.scr j e q
  · rcases get_set_cases h with ⟨rfl, hl, q⟩ | ⟨ne, q⟩
    · cases q
    · exact o.exc j a2 dd2 e q
end
end D3
namespace D3
open PySem PySem.Spec L2

/-! ### readings over data -/
abbrev KF := PySem.W.Frag
def sel (m : Bool) (F H : Hp) : Hp := if m then F else H
def tE (K : KF) (m : Bool) (env : List Sl) (d : PyData) : TE := fun σ H Q => ∃ F0 H0 F, Ok K F0 H0 env σ F H ∧ ∀ v F' H', Grow F H F' H' → Dq K (sel m F' H') v d → Q v H'
/-- a list that is read: its items are frozen, itself perhaps not -/
def tL (K : KF) (env : List Sl) (ds : List PyData) : TE := fun σ H Q => ∃ F0 H0 F, Ok K F0 H0 env σ F H ∧ ∀ p vs F' H', Grow F H F' H' → H' p = some (.lst vs) → DqAll K F' vs ds → Q (.ref p) H'
/-- a new list that nothing else knows -/
def tO (K : KF) (env : List Sl) (ds : List PyData) : TE := fun σ H Q => ∃ F0 H0 F, Ok K F0 H0 env σ F H ∧ ∀ p vs F' H', Grow F H F' H' → H p = none → F' p = none → H' p = some (.lst vs) → DqAll K F' vs ds → Q (.ref p) H'
def tA (K : KF) (m : Bool) (env : List Sl) (ds : List PyData) : TA := fun σ H Q => ∃ F0 H0 F, Ok K F0 H0 env σ F H ∧ ∀ vs F' H', Grow F H F' H' → DqAll K (sel m F' H') vs ds → Q vs H'
def tT (K : KF) (env : List Sl) (b : Bool) : TT := fun σ H Q => ∃ F0 H0 F, Ok K F0 H0 env σ F H ∧ ∀ F' H', Grow F H F' H' → Q b H'

section
variable {X : Cx} {K : KF} {e a b c : Expr} {es : List Expr} {m m1 m2 m3 : Bool} {env : List Sl} {d d1 d2 : PyData} {ds : List PyData} {pos : Pos}
theorem pmono {t t' : TE} (h : PE X e t) (k : ∀ σ H Q, t' σ H Q → t σ H Q) : PE X e t' := ⟨fun pins s σ H Q I q => h.run pins s σ H Q I (k σ H Q q)⟩
theorem ptmono {t t' : TT} (h : PT X e t) (k : ∀ σ H Q, t' σ H Q → t σ H Q) : PT X e t' := ⟨fun pins s σ H Q I q => h.run pins s σ H Q I (k σ H Q q)⟩
theorem pamono {t t' : TA} (h : PA X es t) (k : ∀ σ H Q, t' σ H Q → t σ H Q) : PA X es t' := ⟨fun pos pins s σ H Q I q => h.run pos pins s σ H Q I (k σ H Q q)⟩
theorem psmono {st : Stmt} {t t' : TS} (h : PS X st t) (k : ∀ D σ H, t' D σ H → t D σ H) : PS X st t' := ⟨fun pins s σ H D I q => h.run pins s σ H D I (k D σ H q)⟩
theorem pssmono {st : List Stmt} {t t' : TS} (h : PSs X st t) (k : ∀ D σ H, t' D σ H → t D σ H) : PSs X st t' := ⟨fun pins s σ H D I q => h.run pins s σ H D I (k D σ H q)⟩
theorem seldq {F H : Hp} {v : V} (e : Ex F H) (h : Dq K (sel m F H) v d) : Dq K H v d := by
  cases m with
  | true => exact Dq.up (show Dq K F v d from h) e
  | false => exact h
theorem selup {F H F' H' : Hp} {v : V} (g : Grow F H F' H') (h : Dq K (sel m F H) v d) : Dq K (sel m F' H') v d := by
  cases m with
  | true => exact Dq.up (show Dq K F v d from h) g.ff
  | false => exact Dq.up (show Dq K H v d from h) g.hh
theorem selsc {F H : Hp} {v : V} (s : scalD d = true) (h : Dq K (sel m F H) v d) {H' : Hp} : Dq K H' v d := h.scal s
theorem seldn {F H : Hp} {v : V} (e : Ex F H) (h : Dq K F v d) : Dq K (sel m F H) v d := by
  cases m with
  | true => exact h
  | false => exact h.up e

/-! conversions -/
theorem e_low (h : PE X e (tE K true env d)) : PE X e (tE K m env d) := pmono h fun σ H Q ⟨F0, H0, F, ok, k⟩ => ⟨F0, H0, F, ok, fun v F' H' g x => k v F' H' g (seldn g.fh x)⟩
theorem e_sc (s : scalD d = true) (h : PE X e (tE K m1 env d)) : PE X e (tE K m env d) := pmono h fun σ H Q ⟨F0, H0, F, ok, k⟩ => ⟨F0, H0, F, ok, fun v F' H' g x => k v F' H' g (selsc s x)⟩
theorem l_e (h : PE X e (tE K true env (.list ds))) : PE X e (tL K env ds) := pmono h fun σ H Q ⟨F0, H0, F, ok, k⟩ => ⟨F0, H0, F, ok, fun v F' H' g x => by
  cases (show Dq K F' v (.list ds) from x) with
  | lst h1 h2 => exact k _ _ F' H' g (g.fh _ _ h1) h2⟩
theorem l_o (h : PE X e (tO K env ds)) : PE X e (tL K env ds) := pmono h fun σ H Q ⟨F0, H0, F, ok, k⟩ => ⟨F0, H0, F, ok, fun p vs F' H' g n n' x y => k p vs F' H' g x y⟩
theorem e_o (h : PE X e (tO K env ds)) : PE X e (tE K m env (.list ds)) := pmono h fun σ H Q ⟨F0, H0, F, ok, k⟩ => ⟨F0, H0, F, ok, fun p vs F' H' g n n' x y => by
  refine k (.ref p) (upd F' p (.lst vs)) H' ⟨g.ff.trans (Ex.new n'), g.hh, g.fh.at_ x, fun a h0 h1 => ?_⟩ (seldn (g.fh.at_ x) (.lst upd_same (y.up (Ex.new n'))))
  by_cases ha : a = p
  · subst ha; exact absurd n h1
  · rw [upd_ne ha]; exact g.old a h0 h1⟩
theorem e_l (h : PE X e (tL K env ds)) : PE X e (tE K false env (.list ds)) := pmono h fun σ H Q ⟨F0, H0, F, ok, k⟩ => ⟨F0, H0, F, ok, fun p vs F' H' g x y => k (.ref p) F' H' g (.lst x (y.up g.fh))⟩
theorem a_low (h : PA X es (tA K true env ds)) : PA X es (tA K m env ds) := pamono h fun σ H Q ⟨F0, H0, F, ok, k⟩ => ⟨F0, H0, F, ok, fun v F' H' g x => k v F' H' g (by
  cases m with
  | true => exact x
  | false => exact DqAll.up (show DqAll K F' v ds from x) g.fh)⟩

/-! names and constants -/
theorem pe_dat {x : Str} (i : Nat) (hN : X.N[i]? = some x) (hv : Vis X.env.scope x) (he : env[i]? = some (.dat d)) (hd : (x == ("__debug__" : Str)) = false := by decide) (hcd : (x == ("__classdict__" : Str)) = false := by decide) : PE X (.Name x pos) (tE K m env d) :=
  pmono (pe_var hN hv hd hcd) fun σ H Q ⟨F0, H0, F, ok, k⟩ => by
    obtain ⟨v, h1, h2⟩ := ok.dat i d he
    exact ⟨v, h1, k v F H (Grow.refl ok.g.fh) (seldn ok.g.fh h2)⟩
theorem pl_own {x : Str} (i : Nat) (hN : X.N[i]? = some x) (hv : Vis X.env.scope x) (he : env[i]? = some (.own ds)) (hd : (x == ("__debug__" : Str)) = false := by decide) (hcd : (x == ("__classdict__" : Str)) = false := by decide) : PE X (.Name x pos) (tL K env ds) :=
  pmono (pe_var hN hv hd hcd) fun σ H Q ⟨F0, H0, F, ok, k⟩ => by
    obtain ⟨p, vs, h1, h2, h3, h4, h5⟩ := ok.own i ds he
    exact ⟨.ref p, h1, k p vs F H (Grow.refl ok.g.fh) h4 h5⟩
theorem e_const {v : V} (h : PE X e (tC v)) (hd : ∀ H, Dq K H v d) : PE X e (tE K m env d) := pmono h fun σ H Q ⟨F0, H0, F, ok, k⟩ => k v F H (Grow.refl ok.g.fh) (hd _)
theorem e_int {i : Int} {j : Nat} : PE X (.Constant (.int i) j pos) (tE K m env (.int i)) := e_const pe_int fun _ => .int i
theorem e_bl {i : Bool} {j : Nat} : PE X (.Constant (.bool i) j pos) (tE K m env (.bool i)) := e_const pe_bl fun _ => .bl i
theorem e_non {j : Nat} : PE X (.Constant .none j pos) (tE K m env .none) := e_const pe_non fun _ => .non
theorem e_str {x : Str} {j : Nat} : PE X (.Constant (.str x) j pos) (tE K m env (.str x)) := e_const pe_str fun _ => .str x

/-! operators whose answer needs no heap -/
theorem r_bin {r : R2} {z : V} {t : TE} (ha : PE X a (tE K m1 env d1)) (hb : PE X b (tE K m2 env d2)) (h : PE X e t) (ht : t = tOp r (tE K m1 env d1) (tE K m2 env d2))
    (hr : ∀ x y H Q, Dq K H x d1 → Dq K H y d2 → Q z H → r x y H Q) (hz : ∀ H, Dq K H z d) : PE X e (tE K m env d) := by
  subst ht
  exact pmono h fun σ H Q ⟨F0, H0, F, ok, k⟩ => ⟨F0, H0, F, ok, fun x F1 H1 g1 x1 => ⟨F0, H0, F1, ok.grow g1, fun y F2 H2 g2 y2 =>
    hr x y H2 Q (seldq g2.fh (selup g2 x1)) (seldq g2.fh y2) (k z F2 H2 (g1.trans g2) (hz _))⟩⟩
theorem e_bin {op : Operator} {r : R2} {z : V} (ho : OpR X (binaryOp op) r) (ha : PE X a (tE K m1 env d1)) (hb : PE X b (tE K m2 env d2))
    (hr : ∀ x y H Q, Dq K H x d1 → Dq K H y d2 → Q z H → r x y H Q) (hz : ∀ H, Dq K H z d) : PE X (.BinOp a op b pos) (tE K m env d) := r_bin ha hb (pe_op ho ha hb) rfl hr hz
theorem e_cmp {op : CmpOp} {r : R2} {z : V} (ho : OpR X (compareOp op) r) (ha : PE X a (tE K m1 env d1)) (hb : PE X b (tE K m2 env d2)) (hm : behindInMarks op b = false)
    (hr : ∀ x y H Q, Dq K H x d1 → Dq K H y d2 → Q z H → r x y H Q) (hz : ∀ H, Dq K H z d) : PE X (.Compare a [op] [b] pos) (tE K m env d) := r_bin ha hb (pe_cmpR ho ha hb hm) rfl hr hz
theorem e_un {op : UnaryOp} {r : V → Hp → VK → Prop} {z : V} (ho : UnR X (unaryOp op) r) (ha : PE X a (tE K m1 env d1)) (hr : ∀ x H Q, Dq K H x d1 → Q z H → r x H Q) (hz : ∀ H, Dq K H z d) : PE X (.UnaryOp op a pos) (tE K m env d) :=
  pmono (pe_un ho ha) fun σ H Q ⟨F0, H0, F, ok, k⟩ => ⟨F0, H0, F, ok, fun x F1 H1 g1 x1 => hr x H1 Q (seldq g1.fh x1) (k z F1 H1 g1 (hz _))⟩
section
variable {i j : Int}
theorem e_I {op : Operator} {g : Int → Int → Int} {C : Int → Int → Prop} (ho : OpR X (binaryOp op) (rI C fun i j => .int (g i j))) (hc : C i j) (ha : PE X a (tE K m1 env (.int i))) (hb : PE X b (tE K m2 env (.int j))) : PE X (.BinOp a op b pos) (tE K m env (.int (g i j))) :=
  e_bin ho ha hb (fun x y H Q hx hy q => by cases hx; cases hy; exact ⟨i, j, rfl, rfl, hc, q⟩) fun _ => .int _
theorem e_I0 {op : Operator} {g : Int → Int → Int} (ho : OpR X (binaryOp op) (rI0 fun i j => .int (g i j))) (ha : PE X a (tE K m1 env (.int i))) (hb : PE X b (tE K m2 env (.int j))) : PE X (.BinOp a op b pos) (tE K m env (.int (g i j))) :=
  e_bin ho ha hb (fun x y H Q hx hy q => by cases hx; cases hy; exact ⟨i, j, rfl, rfl, q⟩) fun _ => .int _
theorem e_add (ha : PE X a (tE K true env (.int i))) (hb : PE X b (tE K true env (.int j))) : PE X (.BinOp a .Add b pos) (tE K m env (.int (i + j))) := e_I0 (g := fun i j => i + j) op_add ha hb
theorem e_sub (ha : PE X a (tE K true env (.int i))) (hb : PE X b (tE K true env (.int j))) : PE X (.BinOp a .Sub b pos) (tE K m env (.int (i - j))) := e_I0 (g := fun i j => i - j) op_sub ha hb
theorem e_mod (ha : PE X a (tE K true env (.int i))) (hb : PE X b (tE K true env (.int j))) (hj : 0 < j) : PE X (.BinOp a .Mod b pos) (tE K m env (.int (i % j))) := e_I (g := fun i j => i % j) op_mod hj ha hb
theorem e_fdiv (ha : PE X a (tE K true env (.int i))) (hb : PE X b (tE K true env (.int j))) (hj : 0 < j ∧ j < 1073741824) : PE X (.BinOp a .FloorDiv b pos) (tE K m env (.int (i / j))) := e_I (g := fun i j => i / j) op_fdiv hj ha hb
theorem e_pow (ha : PE X a (tE K true env (.int i))) (hb : PE X b (tE K true env (.int j))) (hj : 0 ≤ j ∧ j ≤ 1000000 ∧ i.natAbs < 2 ^ 64) : PE X (.BinOp a .Pow b pos) (tE K m env (.int (i ^ j.toNat))) := e_I (g := fun i j => i ^ j.toNat) op_pow hj ha hb
theorem e_neg (ha : PE X a (tE K true env (.int i))) : PE X (.UnaryOp .USub a pos) (tE K m env (.int (-i))) := e_un un_neg ha (fun x H Q hx q => by cases hx; exact ⟨i, rfl, q⟩) fun _ => .int _
theorem e_cB {op : CmpOp} {g : Int → Int → Bool} (ho : OpR X (compareOp op) (rI0 fun i j => .bl (g i j))) (ha : PE X a (tE K true env (.int i))) (hb : PE X b (tE K true env (.int j))) (hm : behindInMarks op b = false) : PE X (.Compare a [op] [b] pos) (tE K m env (.bool (g i j))) :=
  e_cmp ho ha hb hm (fun x y H Q hx hy q => by cases hx; cases hy; exact ⟨i, j, rfl, rfl, q⟩) fun _ => .bl _
theorem e_lt (ha : PE X a (tE K true env (.int i))) (hb : PE X b (tE K true env (.int j))) : PE X (.Compare a [.Lt] [b] pos) (tE K m env (.bool (decide (i < j)))) := e_cB (g := fun i j => decide (i < j)) op_lt ha hb (nomark _)
theorem e_le (ha : PE X a (tE K true env (.int i))) (hb : PE X b (tE K true env (.int j))) : PE X (.Compare a [.LtE] [b] pos) (tE K m env (.bool (decide (i ≤ j)))) := e_cB (g := fun i j => decide (i ≤ j)) op_le ha hb (nomark _)
theorem e_gt (ha : PE X a (tE K true env (.int i))) (hb : PE X b (tE K true env (.int j))) : PE X (.Compare a [.Gt] [b] pos) (tE K m env (.bool (decide (j < i)))) := e_cB (g := fun i j => decide (j < i)) op_gt ha hb (nomark _)
theorem e_ge (ha : PE X a (tE K true env (.int i))) (hb : PE X b (tE K true env (.int j))) : PE X (.Compare a [.GtE] [b] pos) (tE K m env (.bool (decide (j ≤ i)))) := e_cB (g := fun i j => decide (j ≤ i)) op_ge ha hb (nomark _)
/-- ints, fast -/
theorem e_eqI (ha : PE X a (tE K true env (.int i))) (hb : PE X b (tE K true env (.int j))) : PE X (.Compare a [.Eq] [b] pos) (tE K m env (.bool (decide (i = j)))) :=
  e_cmp op_eq ha hb (nomark _) (fun x y H Q hx hy q => by cases hx; cases hy; exact ⟨rfl, by
    have : decide (V.int i = V.int j) = decide (i = j) := by simp
    rw [this]; exact q⟩) fun _ => .bl _
theorem e_neI (ha : PE X a (tE K true env (.int i))) (hb : PE X b (tE K true env (.int j))) : PE X (.Compare a [.NotEq] [b] pos) (tE K m env (.bool (!decide (i = j)))) :=
  e_cmp op_ne ha hb (nomark _) (fun x y H Q hx hy q => by cases hx; cases hy; exact ⟨rfl, by
    have : decide (V.int i = V.int j) = decide (i = j) := by simp
    rw [this]; exact q⟩) fun _ => .bl _
end
/-- any data -/
theorem e_eqD (hu : X.A.units + 64 < cLine) (ha : PE X a (tE X.K m1 env d1)) (hb : PE X b (tE X.K m2 env d2)) (s1 : SeqAt.shaped d1 = true) (s2 : SeqAt.shaped d2 = true) : PE X (.Compare a [.Eq] [b] pos) (tE X.K m env (.bool (PyData.eqv d1 d2))) :=
  e_cmp (op_eqD hu) ha hb (nomark _) (fun x y H Q hx hy q => ⟨d1, d2, Dq.dp _ _ hx, Dq.dp _ _ hy, s1, s2, q⟩) fun _ => .bl _
theorem e_neD (hu : X.A.units + 64 < cLine) (ha : PE X a (tE X.K m1 env d1)) (hb : PE X b (tE X.K m2 env d2)) (s1 : SeqAt.shaped d1 = true) (s2 : SeqAt.shaped d2 = true) : PE X (.Compare a [.NotEq] [b] pos) (tE X.K m env (.bool (!PyData.eqv d1 d2))) :=
  e_cmp (op_neD hu) ha hb (nomark _) (fun x y H Q hx hy q => ⟨d1, d2, Dq.dp _ _ hx, Dq.dp _ _ hy, s1, s2, q⟩) fun _ => .bl _

/-! tests, and, or, not, if -/
theorem t_val {k : Bool} (h : PE X e (tE K true env (.bool k))) (he : ∀ whole, isTrue e X.env whole = (do let v ← whole; standAt e.pos; holding [v] (truthy v)) := by intro _; rfl) : PT X e (tT K env k) :=
  ptmono (pt_val h he) fun σ H Q ⟨F0, H0, F, ok, q⟩ => ⟨F0, H0, F, ok, fun v F' H' g x => by
    cases x
    exact ⟨k, rfl, q F' H' g⟩⟩
theorem t_ok {k : Bool} {F0 H0 F H : Hp} {σ : St} {Q : Bool → Hp → Prop} (ok : Ok K F0 H0 env σ F H) (q : ∀ F' H', Grow F H F' H' → Q k H') : tT K env k σ H Q := ⟨F0, H0, F, ok, q⟩
theorem t_and2 {k l : Bool} (ha : PT X a (tT K env k)) (hb : PT X b (tT K env l)) : PT X (.BoolOp .And [a, b] pos) (tT K env (k && l)) :=
  ptmono (pw_and ha (pw_and1 hb)).pt fun σ H Q ⟨F0, H0, F, ok, q⟩ => ⟨F0, H0, F, ok, fun F1 H1 g1 => by
    cases k with
    | true => exact ⟨F0, H0, F1, ok.grow g1, fun F2 H2 g2 => q F2 H2 (g1.trans g2)⟩
    | false => exact q F1 H1 g1⟩
/-- and, or: the second one is asked only if the first one lets it -/
theorem w_one {op : BoolOp} {k : Bool} (ha : PT X a (tT K env k)) : PW X (.BoolOp op [a] pos) (tT K env k) := by
  cases op with
  | And => exact pw_and1 ha
  | Or => exact pw_or1 ha
theorem wmono {t t' : TT} (h : PW X e t) (k : ∀ σ H Q, t' σ H Q → t σ H Q) : PW X e t' := ⟨fun wh pins s σ H Q I q => h.run wh pins s σ H Q I (k σ H Q q)⟩
theorem pw_any : PW X e (fun _ _ _ => False) := ⟨fun _ _ _ _ _ _ _ h => h.elim⟩
theorem pt_any : PT X e (fun _ _ _ => False) := ⟨fun _ _ _ _ _ _ h => h.elim⟩
theorem pe_any : PE X e (fun _ _ _ => False) := ⟨fun _ _ _ _ _ _ h => h.elim⟩
theorem w_and {k l : Bool} (ha : PT X a (tT K env k)) (hb : k = true → PW X (.BoolOp .And (b :: es) pos) (tT K env l)) : PW X (.BoolOp .And (a :: b :: es) pos) (tT K env (k && l)) := by
  cases k with
  | true => exact wmono (pw_and ha (hb rfl)) fun σ H Q ⟨F0, H0, F, ok, q⟩ => ⟨F0, H0, F, ok, fun F1 H1 g1 => ⟨F0, H0, F1, ok.grow g1, fun F2 H2 g2 => q F2 H2 (g1.trans g2)⟩⟩
  | false => exact wmono (pw_and ha pw_any) fun σ H Q ⟨F0, H0, F, ok, q⟩ => ⟨F0, H0, F, ok, fun F1 H1 g1 => q F1 H1 g1⟩
theorem w_or {k l : Bool} (ha : PT X a (tT K env k)) (hb : k = false → PW X (.BoolOp .Or (b :: es) pos) (tT K env l)) : PW X (.BoolOp .Or (a :: b :: es) pos) (tT K env (k || l)) := by
  cases k with
  | false => exact wmono (pw_or ha (hb rfl)) fun σ H Q ⟨F0, H0, F, ok, q⟩ => ⟨F0, H0, F, ok, fun F1 H1 g1 => ⟨F0, H0, F1, ok.grow g1, fun F2 H2 g2 => q F2 H2 (g1.trans g2)⟩⟩
  | true => exact wmono (pw_or ha pw_any) fun σ H Q ⟨F0, H0, F, ok, q⟩ => ⟨F0, H0, F, ok, fun F1 H1 g1 => q F1 H1 g1⟩
theorem t_w {k : Bool} (h : PW X e (tT K env k)) : PT X e (tT K env k) := h.pt
theorem t_not {k : Bool} (ha : PT X a (tT K env k)) : PT X (.UnaryOp .Not a pos) (tT K env (!k)) :=
  ptmono (pt_not ha) fun σ H Q ⟨F0, H0, F, ok, q⟩ => ⟨F0, H0, F, ok, fun F1 H1 g1 => q F1 H1 g1⟩
theorem e_one {op : BoolOp} {k : Bool} (ha : PE X a (tE K m env (.bool k))) : PE X (.BoolOp op [a] pos) (tE K m env (.bool k)) := pe_one ha
theorem e_and {k l : Bool} (ha : PE X a (tE K true env (.bool k))) (hb : k = true → PE X (.BoolOp .And (b :: es) pos) (tE K m env (.bool l))) : PE X (.BoolOp .And (a :: b :: es) pos) (tE K m env (.bool (k && l))) := by
  cases k with
  | true => exact pmono (pe_and ha (hb rfl)) fun σ H Q ⟨F0, H0, F, ok, q⟩ => ⟨F0, H0, F, ok, fun v F1 H1 g1 x => by
      cases x
      exact ⟨true, rfl, F0, H0, F1, ok.grow g1, fun v F2 H2 g2 x2 => q v F2 H2 (g1.trans g2) x2⟩⟩
  | false => exact pmono (pe_and ha pe_any) fun σ H Q ⟨F0, H0, F, ok, q⟩ => ⟨F0, H0, F, ok, fun v F1 H1 g1 x => by
      cases x
      exact ⟨false, rfl, q _ F1 H1 g1 (.bl false)⟩⟩
theorem e_or {k l : Bool} (ha : PE X a (tE K true env (.bool k))) (hb : k = false → PE X (.BoolOp .Or (b :: es) pos) (tE K m env (.bool l))) : PE X (.BoolOp .Or (a :: b :: es) pos) (tE K m env (.bool (k || l))) := by
  cases k with
  | false => exact pmono (pe_or ha (hb rfl)) fun σ H Q ⟨F0, H0, F, ok, q⟩ => ⟨F0, H0, F, ok, fun v F1 H1 g1 x => by
      cases x
      exact ⟨false, rfl, F0, H0, F1, ok.grow g1, fun v F2 H2 g2 x2 => q v F2 H2 (g1.trans g2) x2⟩⟩
  | true => exact pmono (pe_or ha pe_any) fun σ H Q ⟨F0, H0, F, ok, q⟩ => ⟨F0, H0, F, ok, fun v F1 H1 g1 x => by
      cases x
      exact ⟨true, rfl, q _ F1 H1 g1 (.bl true)⟩⟩
theorem e_not {k : Bool} (ha : PE X a (tE K true env (.bool k))) : PE X (.UnaryOp .Not a pos) (tE K m env (.bool (!k))) :=
  pmono (pe_not ha) fun σ H Q ⟨F0, H0, F, ok, q⟩ => ⟨F0, H0, F, ok, fun v F1 H1 g1 x => by
    cases x
    exact ⟨k, rfl, q _ F1 H1 g1 (.bl _)⟩⟩
theorem e_if {k : Bool} (hc : PT X c (tT K env k)) (ha : k = true → PE X a (tE K m env d)) (hb : k = false → PE X b (tE K m env d)) : PE X (.IfExp c a b pos) (tE K m env d) := by
  cases k with
  | true => exact pmono (pe_ifExp hc (ha rfl) pe_any) fun σ H Q ⟨F0, H0, F, ok, q⟩ => ⟨F0, H0, F, ok, fun F1 H1 g1 => ⟨F0, H0, F1, ok.grow g1, fun v F2 H2 g2 x => q v F2 H2 (g1.trans g2) x⟩⟩
  | false => exact pmono (pe_ifExp hc pe_any (hb rfl)) fun σ H Q ⟨F0, H0, F, ok, q⟩ => ⟨F0, H0, F, ok, fun F1 H1 g1 => ⟨F0, H0, F1, ok.grow g1, fun v F2 H2 g2 x => q v F2 H2 (g1.trans g2) x⟩⟩

/-! argument lists, displays -/
theorem a_nil : PA X [] (tA K m env []) := pamono pa_nil fun σ H Q ⟨F0, H0, F, ok, q⟩ => q [] F H (Grow.refl ok.g.fh) .nil
theorem dqselup {F H F' H' : Hp} {vs : List V} (g : Grow F H F' H') (h : DqAll K (sel m F H) vs ds) : DqAll K (sel m F' H') vs ds := by
  cases m with
  | true => exact DqAll.up (show DqAll K F vs ds from h) g.ff
  | false => exact DqAll.up (show DqAll K H vs ds from h) g.hh
theorem a_cons (ha : PE X a (tE K m env d)) (hs : PA X es (tA K m env ds)) (hst : starEach (a :: es) X.env = (false, eval a X.env) :: starEach es X.env := by rfl) : PA X (a :: es) (tA K m env (d :: ds)) :=
  pamono (pa_cons ha hs hst) fun σ H Q ⟨F0, H0, F, ok, q⟩ => ⟨F0, H0, F, ok, fun v F1 H1 g1 x1 => ⟨F0, H0, F1, ok.grow g1, fun vs F2 H2 g2 x2 => q (v :: vs) F2 H2 (g1.trans g2) (.cons (selup g2 x1) x2)⟩⟩
theorem o_list (h : PA X es (tA K true env ds)) (hl : ds.length ≤ sizeLine) : PE X (.List es pos) (tO K env ds) :=
  pmono (pe_lst h) fun σ H Q ⟨F0, H0, F, ok, q⟩ => ⟨F0, H0, F, ok, fun vs F1 H1 g1 x1 => ⟨by
    have := DqAll.length (show DqAll K F1 vs ds from x1)
    omega, fun p hp => q p vs F1 (upd H1 p (.lst vs)) (g1.trans (Grow.own g1.fh hp)) (g1.hh.back hp) (g1.fh.back hp) upd_same x1⟩⟩
theorem e_tup {x1} (h : PA X es (tA K true env ds)) (hl : ds.length ≤ sizeLine) : PE X (.Tuple es x1 pos) (tE K m env (.tuple ds)) :=
  pmono (pe_tup h) fun σ H Q ⟨F0, H0, F, ok, q⟩ => ⟨F0, H0, F, ok, fun vs F1 H1 g1 x1 => ⟨by
    have := DqAll.length (show DqAll K F1 vs ds from x1)
    omega, fun p hp => q (.ref p) (upd F1 p (.tup vs)) (upd H1 p (.tup vs)) (g1.trans (Grow.new g1.fh hp)) (seldn (g1.fh.both) (.tup (.inl (.inl upd_same)) (DqAll.up (show DqAll K F1 vs ds from x1) (Ex.new (g1.fh.back hp)))))⟩⟩
end
end D3
namespace D3
open PySem PySem.Spec L2

section
variable {X : Cx} {K : KF} {e a b c : Expr} {es : List Expr} {m m1 m2 m3 : Bool} {env : List Sl} {d d1 d2 : PyData} {ds ds1 ds2 : List PyData} {pos p1 p2 p3 p4 : Pos}
abbrev NS (X : Cx) (e : Expr) : Prop := ∀ es, starEach (e :: es) X.env = (false, eval e X.env) :: starEach es X.env
theorem sqOf {H : Hp} {p : Addr} {vs : List V} (h : H p = some (.lst vs)) : SqL K H p vs := .inl (.inl h)

/-! ### len -/
theorem e_len (hm : X.mg "len" = none) (h : PE X e (tL X.K env ds)) (hg : Gl X "len" := by rfl) (ns : NS X e := by exact fun _ => rfl) : PE X (.Call (.Name "len" p1) [e] [] pos) (tE X.K m env (.int (ds.length : Int))) :=
  pmono (pe_callB call_len_seq hg hm PySem.boot_len (pa_cons h pa_nil (ns [])) (he := ns [])) fun σ H Q ⟨F0, H0, F, ok, k⟩ => ⟨F0, H0, F, ok, fun p vs F' H' g x y => ⟨p, vs, rfl, .inl (sqOf x), k _ F' H' g (by rw [y.length]; exact .int _)⟩⟩
theorem e_lenT (hm : X.mg "len" = none) (h : PE X e (tE X.K true env (.tuple ds))) (hg : Gl X "len" := by rfl) (ns : NS X e := by exact fun _ => rfl) : PE X (.Call (.Name "len" p1) [e] [] pos) (tE X.K m env (.int (ds.length : Int))) :=
  pmono (pe_callB call_len_seq hg hm PySem.boot_len (pa_cons h pa_nil (ns [])) (he := ns [])) fun σ H Q ⟨F0, H0, F, ok, k⟩ => ⟨F0, H0, F, ok, fun v F' H' g x => by
    cases (show Dq X.K F' v (.tuple ds) from x) with
    | tup h1 h2 => exact ⟨_, _, rfl, .inr (ex_t g.fh h1), k _ F' H' g (by rw [h2.length]; exact .int _)⟩⟩
theorem e_lenS {z : Str} (hm : X.mg "len" = none) (hz : z.length ≤ sizeLine) (h : PE X e (tE X.K true env (.str z))) (hg : Gl X "len" := by rfl) (ns : NS X e := by exact fun _ => rfl) : PE X (.Call (.Name "len" p1) [e] [] pos) (tE X.K m env (.int (z.length : Int))) :=
  pmono (pe_callB call_len_str hg hm PySem.boot_len (pa_cons h pa_nil (ns [])) (he := ns [])) fun σ H Q ⟨F0, H0, F, ok, k⟩ => ⟨F0, H0, F, ok, fun v F' H' g x => by
    cases x
    exact ⟨z, rfl, hz, k _ F' H' g (.int _)⟩⟩
/-- len(script) -/
theorem e_lenScr {x : Str} {ns : List Int} (i : Nat) (hm : X.mg "len" = none) (he : env[i]? = some (.scr ns)) (hN : X.N[i]? = some x) (hv : Vis X.env.scope x) (hd : (x == ("__debug__" : Str)) = false := by decide) (hcd : (x == ("__classdict__" : Str)) = false := by decide) (hg : Gl X "len" := by rfl) :
    PE X (.Call (.Name "len" p1) [.Name x p2] [] pos) (tE X.K m env (.int (ns.length : Int))) :=
  pmono (pe_callB call_len_seq hg hm PySem.boot_len (pa_cons (pe_var hN hv hd hcd) pa_nil)) fun σ H Q ⟨F0, H0, F, ok, k⟩ => by
    obtain ⟨a, h1, h2⟩ := ok.scr i ns he
    exact ⟨.ref a, h1, a, _, rfl, .inl (ex_l ok.g.fh h2), k _ F H (Grow.refl ok.g.fh) (by rw [List.length_map]; exact .int _)⟩

/-! ### an item -/
theorem atI_dq {F : Hp} {vs : List V} {i : Int} (h : DqAll K F vs ds) (ha : atI ds i = some d) : ∃ v, atI vs i = some v ∧ Dq K F v d := by
  unfold atI at ha ⊢
  rw [h.length]
  cases hx : ixN ds.length i with
  | none => rw [hx] at ha; cases ha
  | some j =>
    rw [hx] at ha
    exact h.get ha
theorem e_ix {i : Int} (h : PE X a (tL X.K env ds)) (hb : PE X b (tE X.K true env (.int i))) (ha : atI ds i = some d) (hs : PlainIx b := by exact fun _ _ => rfl) : PE X (.Subscript a b pos) (tE X.K m env d) :=
  pmono (pe_ix ix_list h hb hs) fun σ H Q ⟨F0, H0, F, ok, k⟩ => ⟨F0, H0, F, ok, fun p vs F1 H1 g1 x y => ⟨F0, H0, F1, ok.grow g1, fun v F2 H2 g2 z => by
    cases z
    obtain ⟨v, q1, q2⟩ := atI_dq y ha
    exact ⟨p, vs, i, v, rfl, rfl, sqOf (g2.hh _ _ x), q1, k v F2 H2 (g1.trans g2) (seldn g2.fh (q2.up g2.ff))⟩⟩⟩
theorem e_ixT {i : Int} (h : PE X a (tE X.K true env (.tuple ds))) (hb : PE X b (tE X.K true env (.int i))) (ha : atI ds i = some d) (hs : PlainIx b := by exact fun _ _ => rfl) : PE X (.Subscript a b pos) (tE X.K m env d) :=
  pmono (pe_ix ix_tup h hb hs) fun σ H Q ⟨F0, H0, F, ok, k⟩ => ⟨F0, H0, F, ok, fun v F1 H1 g1 x => ⟨F0, H0, F1, ok.grow g1, fun w F2 H2 g2 z => by
    cases z
    cases (show Dq X.K F1 v (.tuple ds) from x) with
    | tup h1 h2 =>
      obtain ⟨v, q1, q2⟩ := atI_dq h2 ha
      exact ⟨_, _, i, v, rfl, rfl, ex_t (g1.fh.trans g2.hh) h1, q1, k v F2 H2 (g1.trans g2) (seldn g2.fh (q2.up g2.ff))⟩⟩⟩
theorem e_ixS {i : Int} {z : Str} {c : Nat} (h : PE X a (tE X.K true env (.str z))) (hb : PE X b (tE X.K true env (.int i))) (hz : z.length ≤ sizeLine) (ha : atI z.cps.toList i = some c) (hs : PlainIx b := by exact fun _ _ => rfl) : PE X (.Subscript a b pos) (tE X.K m env (.str ⟨#[c]⟩)) :=
  pmono (pe_ix ix_str h hb hs) fun σ H Q ⟨F0, H0, F, ok, k⟩ => ⟨F0, H0, F, ok, fun v F1 H1 g1 x => ⟨F0, H0, F1, ok.grow g1, fun w F2 H2 g2 y => by
    cases x
    cases y
    exact ⟨z, i, c, rfl, rfl, hz, ha, k _ F2 H2 (g1.trans g2) (.str _)⟩⟩⟩
/-- script[k] -/
theorem e_ixScr {x : Str} {ns : List Int} {i : Nat} {j n : Int} (he : env[i]? = some (.scr ns)) (hN : X.N[i]? = some x) (hv : Vis X.env.scope x) (hb : PE X b (tE X.K true env (.int j))) (ha : atI ns j = some n) (hs : PlainIx b := by exact fun _ _ => rfl)
    (hd : (x == ("__debug__" : Str)) = false := by decide) (hcd : (x == ("__classdict__" : Str)) = false := by decide) : PE X (.Subscript (.Name x p1) b pos) (tE X.K m env (.int n)) :=
  pmono (pe_ix ix_list (pe_var hN hv hd hcd) hb hs) fun σ H Q ⟨F0, H0, F, ok, k⟩ => by
    obtain ⟨a, h1, h2⟩ := ok.scr i ns he
    refine ⟨.ref a, h1, F0, H0, F, ok, fun w F2 H2 g2 z => ?_⟩
    cases z
    refine ⟨a, _, j, .int n, rfl, rfl, ex_l (ok.g.fh.trans g2.hh) h2, ?_, k _ F2 H2 g2 (.int _)⟩
    unfold atI at ha ⊢
    rw [List.length_map]
    cases hx : ixN ns.length j with
    | none => rw [hx] at ha; cases ha
    | some q =>
      rw [hx] at ha
      show (ns.map V.int)[q]? = some (.int n)
      rw [List.getElem?_map, show ns[q]? = some n from ha]; rfl

/-! ### slices -/
theorem dq_cut {F : Hp} {vs : List V} (lo hi : Option Int) (h : DqAll K F vs ds) : DqAll K F (cutV vs lo hi) ((ds.drop (HT.sIx ds.length 0 lo)).take (HT.sIx ds.length ds.length hi - HT.sIx ds.length 0 lo)) := by
  unfold cutV
  rw [h.length]
  exact (h.drop _).take _
def cutD {α : Type} (ds : List α) (lo hi : Option Int) : List α := (ds.drop (HT.sIx ds.length 0 lo)).take (HT.sIx ds.length ds.length hi - HT.sIx ds.length 0 lo)
def tOp_ (K : KF) (env : List Sl) (o : Option Int) : TO := fun σ H Q => ∃ F0 H0 F, Ok K F0 H0 env σ F H ∧ ∀ F' H', Grow F H F' H' → Q o H'
theorem pomono {eo : Option Expr} {t t' : TO} (h : PO X eo t) (k : ∀ σ H Q, t' σ H Q → t σ H Q) : PO X eo t' := ⟨fun pins s σ H Q I q => h.run pins s σ H Q I (k σ H Q q)⟩
theorem o_no : PO X none (tOp_ K env none) := pomono po_none fun σ H Q ⟨F0, H0, F, ok, k⟩ => k F H (Grow.refl ok.g.fh)
theorem o_so {i : Int} (h : PE X e (tE K true env (.int i))) : PO X (some e) (tOp_ K env (some i)) := pomono (po_some h) fun σ H Q ⟨F0, H0, F, ok, k⟩ => ⟨F0, H0, F, ok, fun v F1 H1 g1 x => by
  cases x
  exact ⟨i, rfl, k F1 H1 g1⟩⟩
theorem o_sl {lo hi : Option Int} {elo ehi : Option Expr} (h : PE X e (tL X.K env ds)) (hl : PO X elo (tOp_ X.K env lo)) (hh : PO X ehi (tOp_ X.K env hi)) : PE X (.Subscript e (.Slice elo ehi none p2) pos) (tO X.K env (cutD ds lo hi)) :=
  pmono (pe_slice sl_list h hl hh) fun σ H Q ⟨F0, H0, F, ok, k⟩ => ⟨F0, H0, F, ok, fun p vs F1 H1 g1 x y => ⟨F0, H0, F1, ok.grow g1, fun F2 H2 g2 => ⟨F0, H0, F2, (ok.grow g1).grow g2, fun F3 H3 g3 =>
    ⟨p, vs, rfl, sqOf (g3.hh _ _ (g2.hh _ _ x)), fun q hq => k q _ F3 _ (((g1.trans g2).trans g3).trans (Grow.own g3.fh hq)) (((g1.trans g2).trans g3).hh.back hq) (g3.fh.back hq) upd_same (dq_cut lo hi (y.up (g2.ff.trans g3.ff)))⟩⟩⟩⟩
theorem e_slS {lo hi : Option Int} {elo ehi : Option Expr} {z : Str} (hz : z.length ≤ sizeLine) (h : PE X e (tE X.K true env (.str z))) (hl : PO X elo (tOp_ X.K env lo)) (hh : PO X ehi (tOp_ X.K env hi)) : PE X (.Subscript e (.Slice elo ehi none p2) pos) (tE X.K m env (.str (cutS z lo hi))) :=
  pmono (pe_slice sl_str h hl hh) fun σ H Q ⟨F0, H0, F, ok, k⟩ => ⟨F0, H0, F, ok, fun v F1 H1 g1 x => ⟨F0, H0, F1, ok.grow g1, fun F2 H2 g2 => ⟨F0, H0, F2, (ok.grow g1).grow g2, fun F3 H3 g3 => by
    cases x
    exact ⟨z, rfl, hz, k _ F3 H3 ((g1.trans g2).trans g3) (.str _)⟩⟩⟩⟩

/-! ### new lists -/
theorem o_cat (ha : PE X a (tL X.K env ds1)) (hb : PE X b (tL X.K env ds2)) (hz : ds1.length + ds2.length ≤ sizeLine) : PE X (.BinOp a .Add b pos) (tO X.K env (ds1 ++ ds2)) :=
  pmono (pe_op op_cat ha hb) fun σ H Q ⟨F0, H0, F, ok, k⟩ => ⟨F0, H0, F, ok, fun p vs F1 H1 g1 x y => ⟨F0, H0, F1, ok.grow g1, fun q ws F2 H2 g2 x2 y2 =>
    ⟨p, q, vs, ws, rfl, rfl, g2.hh _ _ x, x2, by rw [y.length, y2.length]; exact hz, fun r hr => k r _ F2 _ ((g1.trans g2).trans (Grow.own g2.fh hr)) ((g1.trans g2).hh.back hr) (g2.fh.back hr) upd_same ((y.up g2.ff).append y2)⟩⟩⟩
def repD {α : Type} (ds : List α) (k : Int) : List α := (List.replicate k.toNat ds).flatten
theorem dq_rep {F : Hp} {vs : List V} (h : DqAll K F vs ds) : ∀ n : Nat, DqAll K F (List.replicate n vs).flatten (List.replicate n ds).flatten
  | 0 => .nil
  | n + 1 => by
    rw [List.replicate_succ, List.replicate_succ, List.flatten_cons, List.flatten_cons]
    exact h.append (dq_rep h n)
theorem o_rep {k : Int} (ha : PE X a (tL X.K env ds)) (hb : PE X b (tE X.K true env (.int k))) (h1 : -(2 ^ 63) ≤ k ∧ k < 2 ^ 63) (hz : ds.length * k.toNat ≤ sizeLine) : PE X (.BinOp a .Mult b pos) (tO X.K env (repD ds k)) :=
  pmono (pe_op op_rep ha hb) fun σ H Q ⟨F0, H0, F, ok, q⟩ => ⟨F0, H0, F, ok, fun p vs F1 H1 g1 x y => ⟨F0, H0, F1, ok.grow g1, fun w F2 H2 g2 z => by
    cases z
    exact ⟨p, k, vs, rfl, rfl, g2.hh _ _ x, h1.1, h1.2, by rw [y.length]; exact hz, fun r hr => q r _ F2 _ ((g1.trans g2).trans (Grow.own g2.fh hr)) ((g1.trans g2).hh.back hr) (g2.fh.back hr) upd_same (dq_rep (y.up g2.ff) _)⟩⟩⟩
theorem o_listOf (hm : X.mg "list" = none) (h : PE X e (tL X.K env ds)) (hg : Gl X "list" := by rfl) (hv : bootBuiltins "list" = some (.type "list") := by decide +kernel) (ns : NS X e := by exact fun _ => rfl) : PE X (.Call (.Name "list" p1) [e] [] pos) (tO X.K env ds) :=
  pmono (pe_callTy call_list_of hg hm hv (pa_cons h pa_nil (ns [])) (he := ns [])) fun σ H Q ⟨F0, H0, F, ok, k⟩ => ⟨F0, H0, F, ok, fun p vs F1 H1 g1 x y => ⟨p, vs, rfl, .inl (sqOf x), fun r hr => k r vs F1 _ (g1.trans (Grow.own g1.fh hr)) (g1.hh.back hr) (g1.fh.back hr) upd_same y⟩⟩

/-! ### built-ins of ints -/
section
variable {i j : Int}
theorem e_abs (hm : X.mg "abs" = none) (h : PE X e (tE X.K true env (.int i))) (hg : Gl X "abs" := by rfl) (hv : bootBuiltins "abs" = some (.builtin "abs") := by decide +kernel) (ns : NS X e := by exact fun _ => rfl) : PE X (.Call (.Name "abs" p1) [e] [] pos) (tE X.K m env (.int (if i < 0 then -i else i))) :=
  pmono (pe_callB call_abs hg hm hv (pa_cons h pa_nil (ns [])) (he := ns [])) fun σ H Q ⟨F0, H0, F, ok, k⟩ => ⟨F0, H0, F, ok, fun v F1 H1 g1 x => by
    cases x
    exact ⟨i, rfl, k _ F1 H1 g1 (.int _)⟩⟩
theorem e_intI (hm : X.mg "int" = none) (h : PE X e (tE X.K true env (.int i))) (hg : Gl X "int" := by rfl) (hv : bootBuiltins "int" = some (.type "int") := by decide +kernel) (ns : NS X e := by exact fun _ => rfl) : PE X (.Call (.Name "int" p1) [e] [] pos) (tE X.K m env (.int i)) :=
  pmono (pe_callTy call_int1 hg hm hv (pa_cons h pa_nil (ns [])) (he := ns [])) fun σ H Q ⟨F0, H0, F, ok, k⟩ => ⟨F0, H0, F, ok, fun v F1 H1 g1 x => by
    cases x
    exact .inl ⟨i, rfl, k _ F1 H1 g1 (.int _)⟩⟩
theorem e_intB {t : Bool} (hm : X.mg "int" = none) (h : PE X e (tE X.K true env (.bool t))) (hg : Gl X "int" := by rfl) (hv : bootBuiltins "int" = some (.type "int") := by decide +kernel) (ns : NS X e := by exact fun _ => rfl) : PE X (.Call (.Name "int" p1) [e] [] pos) (tE X.K m env (.int (if t then 1 else 0))) :=
  pmono (pe_callTy call_int1 hg hm hv (pa_cons h pa_nil (ns [])) (he := ns [])) fun σ H Q ⟨F0, H0, F, ok, k⟩ => ⟨F0, H0, F, ok, fun v F1 H1 g1 x => by
    cases x
    exact .inr ⟨t, rfl, k _ F1 H1 g1 (.int _)⟩⟩
theorem cb2 {t : TE} {i j : Int} {z : V} {d : PyData} {r : List V → Hp → VK → Prop} (ha : PE X a (tE X.K true env (.int i))) (hb : PE X b (tE X.K true env (.int j)))
    (h : PE X e (tCB r (tCons (tE X.K true env (.int i)) (tCons (tE X.K true env (.int j)) tNil)))) (hr : ∀ H Q, Q z H → r [.int i, .int j] H Q) (hz : ∀ H, Dq X.K H z d) : PE X e (tE X.K m env d) :=
  pmono h fun σ H Q ⟨F0, H0, F, ok, k⟩ => ⟨F0, H0, F, ok, fun v F1 H1 g1 x => ⟨F0, H0, F1, ok.grow g1, fun w F2 H2 g2 y => by
    cases x
    cases y
    exact hr _ _ (k z F2 H2 (g1.trans g2) (hz _))⟩⟩
theorem e_max2 (hm : X.mg "max" = none) (ha : PE X a (tE X.K true env (.int i))) (hb : PE X b (tE X.K true env (.int j))) (hc : X.calm = true := by rfl) (hg : Gl X "max" := by rfl) (hv : bootBuiltins "max" = some (.builtin "max") := by decide +kernel)
    (na : NS X a := by exact fun _ => rfl) (nb : NS X b := by exact fun _ => rfl) : PE X (.Call (.Name "max" p1) [a, b] [] pos) (tE X.K m env (.int (if j > i then j else i))) :=
  cb2 (t := tC .non) ha hb (pe_callB (call_max2 hc) hg hm hv (pa_cons ha (pa_cons hb pa_nil (nb [])) (na [b])) (he := na [b]) (hpl := by rw [nb []]; rfl)) (fun H Q q => ⟨i, j, rfl, q⟩) fun _ => .int _
theorem e_min2 (hm : X.mg "min" = none) (ha : PE X a (tE X.K true env (.int i))) (hb : PE X b (tE X.K true env (.int j))) (hc : X.calm = true := by rfl) (hg : Gl X "min" := by rfl) (hv : bootBuiltins "min" = some (.builtin "min") := by decide +kernel)
    (na : NS X a := by exact fun _ => rfl) (nb : NS X b := by exact fun _ => rfl) : PE X (.Call (.Name "min" p1) [a, b] [] pos) (tE X.K m env (.int (if j < i then j else i))) :=
  cb2 (t := tC .non) ha hb (pe_callB (call_min2 hc) hg hm hv (pa_cons ha (pa_cons hb pa_nil (nb [])) (na [b])) (he := na [b]) (hpl := by rw [nb []]; rfl)) (fun H Q q => ⟨i, j, rfl, q⟩) fun _ => .int _
theorem e_max2n (hm : X.mg "max" = none) {i j : Nat} (ha : PE X a (tE X.K true env (.int i))) (hb : PE X b (tE X.K true env (.int j))) (hc : X.calm = true := by rfl) (hg : Gl X "max" := by rfl) (hv : bootBuiltins "max" = some (.builtin "max") := by decide +kernel)
    (na : NS X a := by exact fun _ => rfl) (nb : NS X b := by exact fun _ => rfl) : PE X (.Call (.Name "max" p1) [a, b] [] pos) (tE X.K m env (.int ((max i j : Nat) : Int))) := by
  have h := e_max2 (m := m) (p1 := p1) (pos := pos) hm ha hb hc hg hv na nb
  have e : (if (j : Int) > (i : Int) then (j : Int) else (i : Int)) = ((max i j : Nat) : Int) := by split <;> omega
  rwa [e] at h
theorem e_min2n (hm : X.mg "min" = none) {i j : Nat} (ha : PE X a (tE X.K true env (.int i))) (hb : PE X b (tE X.K true env (.int j))) (hc : X.calm = true := by rfl) (hg : Gl X "min" := by rfl) (hv : bootBuiltins "min" = some (.builtin "min") := by decide +kernel)
    (na : NS X a := by exact fun _ => rfl) (nb : NS X b := by exact fun _ => rfl) : PE X (.Call (.Name "min" p1) [a, b] [] pos) (tE X.K m env (.int ((min i j : Nat) : Int))) := by
  have h := e_min2 (m := m) (p1 := p1) (pos := pos) hm ha hb hc hg hv na nb
  have e : (if (j : Int) < (i : Int) then (j : Int) else (i : Int)) = ((min i j : Nat) : Int) := by split <;> omega
  rwa [e] at h
/-- x of an equal int -/
theorem e_int_eq (h : PE X e (tE K m env (.int i))) (q : i = j) : PE X e (tE K m env (.int j)) := q ▸ h
theorem e_eq (h : PE X e (tE K m env d1)) (q : d1 = d2) : PE X e (tE K m env d2) := q ▸ h
theorem o_eq (h : PE X e (tO K env ds1)) (q : ds1 = ds2) : PE X e (tO K env ds2) := q ▸ h
theorem l_eq (h : PE X e (tL K env ds1)) (q : ds1 = ds2) : PE X e (tL K env ds2) := q ▸ h
theorem t_eq {k l : Bool} (h : PT X e (tT K env k)) (q : k = l) : PT X e (tT K env l) := q ▸ h
theorem e_all {bs : List Bool} (hm : X.mg "all" = none) (h : PE X e (tL X.K env (bs.map .bool))) (hg : Gl X "all" := by rfl) (hv : bootBuiltins "all" = some (.builtin "all") := by decide +kernel) (hc : CallR X (.builtin "all") (rAll X.K)) (ns : NS X e := by exact fun _ => rfl) : PE X (.Call (.Name "all" p1) [e] [] pos) (tE X.K m env (.bool (bs.all id))) :=
  pmono (pe_callB hc hg hm hv (pa_cons h pa_nil (ns [])) (he := ns [])) fun σ H Q ⟨F0, H0, F, ok, k⟩ => ⟨F0, H0, F, ok, fun p vs F1 H1 g1 x y => ⟨p, bs, rfl, by rw [DqAll.bls y] at x; exact sqOf x, k _ F1 H1 g1 (.bl _)⟩⟩
theorem e_any {bs : List Bool} (hm : X.mg "any" = none) (h : PE X e (tL X.K env (bs.map .bool))) (hg : Gl X "any" := by rfl) (hv : bootBuiltins "any" = some (.builtin "any") := by decide +kernel) (hc : CallR X (.builtin "any") (rAny X.K)) (ns : NS X e := by exact fun _ => rfl) : PE X (.Call (.Name "any" p1) [e] [] pos) (tE X.K m env (.bool (bs.any id))) :=
  pmono (pe_callB hc hg hm hv (pa_cons h pa_nil (ns [])) (he := ns [])) fun σ H Q ⟨F0, H0, F, ok, k⟩ => ⟨F0, H0, F, ok, fun p vs F1 H1 g1 x y => ⟨p, bs, rfl, by rw [DqAll.bls y] at x; exact sqOf x, k _ F1 H1 g1 (.bl _)⟩⟩
end

/-! ### what is walked -/
structure Gives (K : KF) (F : Hp) (J : It) (ds : List PyData) : Prop where
  go : ∀ (i : Nat) F' H', i < ds.length → Ex F F' → Ex F' H' → J.go i H'
  stop : ∀ (i : Nat) F' H', ds.length ≤ i → Ex F F' → Ex F' H' → J.stop i H'
  yld : ∀ (i : Nat) (d : PyData) F' H' x H'', ds[i]? = some d → Ex F F' → Ex F' H' → J.yld i H' x H'' → ∃ F'', Grow F' H' F'' H'' ∧ Dq K F'' x d
def tI (K : KF) (env : List Sl) (ds : List PyData) : TI := fun σ H R => ∃ F0 H0 F, Ok K F0 H0 env σ F H ∧ ∀ J F' H', Grow F H F' H' → Gives K F' J ds → R J H'
section
variable {tg iter l : Expr}
theorem pimono {t t' : TI} (h : PI X tg iter t) (k : ∀ σ H R, t' σ H R → t σ H R) : PI X tg iter t' := ⟨fun pins s σ H R I q => h.run pins s σ H R I (k σ H R q)⟩
theorem i_list (h : PE X l (tE X.K true env (.list ds))) : PI X tg l (tI X.K env ds) := pimono (pi_list h) fun σ H R ⟨F0, H0, F, ok, k⟩ => ⟨F0, H0, F, ok, fun v F1 H1 g1 x => by
  cases (show Dq X.K F1 v (.list ds) from x) with
  | @lst a vs _ h1 h2 =>
    refine ⟨a, rfl, ⟨vs, sqOf (g1.fh _ _ h1)⟩, k _ F1 H1 g1 ⟨fun i F' H' hi e1 e2 => ?_, fun i F' H' hi e1 e2 => ⟨vs, sqOf (e2 _ _ (e1 _ _ h1)), by rw [h2.length]; exact hi⟩, fun i d F' H' x H'' hd e1 e2 hy => ?_⟩⟩
    · have hl := h2.length
      exact ⟨vs, vs[i], sqOf (e2 _ _ (e1 _ _ h1)), List.getElem?_eq_getElem (by omega)⟩
    · obtain ⟨rfl, hy⟩ := hy
      have hx := hy vs (sqOf (e2 _ _ (e1 _ _ h1)))
      obtain ⟨d', q1, q2⟩ := h2.getV hx
      rw [hd] at q1; cases q1
      exact ⟨F', Grow.refl e2, q2.up e1⟩⟩
theorem i_tup (h : PE X l (tE X.K true env (.tuple ds))) : PI X tg l (tI X.K env ds) := pimono (pi_tup h) fun σ H R ⟨F0, H0, F, ok, k⟩ => ⟨F0, H0, F, ok, fun v F1 H1 g1 x => by
  cases (show Dq X.K F1 v (.tuple ds) from x) with
  | @tup a vs _ h1 h2 =>
    refine ⟨a, rfl, ⟨vs, ex_t g1.fh h1⟩, k _ F1 H1 g1 ⟨fun i F' H' hi e1 e2 => ?_, fun i F' H' hi e1 e2 => ⟨vs, ex_t (e1.trans e2) h1, by rw [h2.length]; exact hi⟩, fun i d F' H' x H'' hd e1 e2 hy => ?_⟩⟩
    · have hl := h2.length
      exact ⟨vs, vs[i], ex_t (e1.trans e2) h1, List.getElem?_eq_getElem (by omega)⟩
    · obtain ⟨rfl, hy⟩ := hy
      have hx := hy vs (ex_t (e1.trans e2) h1)
      obtain ⟨d', q1, q2⟩ := h2.getV hx
      rw [hd] at q1; cases q1
      exact ⟨F', Grow.refl e2, q2.up e1⟩⟩
def rangeD (lo : Int) (n : Nat) : List PyData := (List.range n).map fun (i : Nat) => .int (lo + (i : Int))
theorem gives_rng {F : Hp} (lo : Int) (n : Nat) : Gives K F (Itr lo n) (rangeD lo n) :=
  ⟨fun i F' H' hi _ _ => by
    have : i < n := by simpa [rangeD] using hi
    exact this, fun i F' H' hi _ _ => by
    have : n ≤ i := by simpa [rangeD] using hi
    exact this, fun i d F' H' x H'' hd e1 e2 hy => by
    obtain ⟨rfl, rfl⟩ := hy
    have hi : i < n := by simpa [rangeD] using (List.getElem?_eq_some_iff.mp hd).1
    have : d = .int (lo + (i : Int)) := by
      unfold rangeD at hd
      rw [List.getElem?_map, List.getElem?_range hi] at hd
      exact (Option.some.inj hd).symm
    subst this
    exact ⟨F', Grow.refl e2, .int _⟩⟩
theorem i_rng1 {j : Int} (hm : X.mg "range" = none) (ha : PE X a (tE X.K true env (.int j))) (hj : -(2 ^ 62) ≤ j ∧ j < 2 ^ 62) (hg : Gl X "range" := by rfl) (na : NS X a := by exact fun _ => rfl) : PI X tg (.Call (.Name "range" p1) [a] [] pos) (tI X.K env (rangeD 0 j.toNat)) :=
  pimono (pi_range1 hg hm (pa_cons ha pa_nil (na [])) (na [])) fun σ H R ⟨F0, H0, F, ok, k⟩ => ⟨F0, H0, F, ok, fun v F1 H1 g1 x => by
    cases x
    exact ⟨j, rfl, hj.1, hj.2, k _ F1 H1 g1 (gives_rng 0 _)⟩⟩
theorem i_rng2 {i j : Int} (hm : X.mg "range" = none) (ha : PE X a (tE X.K true env (.int i))) (hb : PE X b (tE X.K true env (.int j))) (hj : -(2 ^ 62) ≤ i ∧ i < 2 ^ 62 ∧ -(2 ^ 62) ≤ j ∧ j < 2 ^ 62) (hg : Gl X "range" := by rfl) (na : NS X a := by exact fun _ => rfl) (nb : NS X b := by exact fun _ => rfl) :
    PI X tg (.Call (.Name "range" p1) [a, b] [] pos) (tI X.K env (rangeD i (j - i).toNat)) :=
  pimono (pi_range2 hg hm (pa_cons ha (pa_cons hb pa_nil (nb [])) (na [b])) (by rw [na [b], nb []]; rfl) (nb [])) fun σ H R ⟨F0, H0, F, ok, k⟩ => ⟨F0, H0, F, ok, fun v F1 H1 g1 x => ⟨F0, H0, F1, ok.grow g1, fun w F2 H2 g2 y => by
    cases x
    cases y
    exact ⟨i, j, rfl, hj, k _ F2 H2 (g1.trans g2) (gives_rng i _)⟩⟩⟩
end

/-! ### targets -/
/-- g stores the datum d into slots (ix names them), that makes of env f env -/
def Asg (K : KF) (g : TG) (d : PyData) (f : List Sl → List Sl) (ix : List Nat) : Prop := ∀ (F0 H0 F H : Hp) (env : List Sl) (σ : St) (v : V) (Q : St → Hp → Prop), Ok K F0 H0 env σ F H → Dq K F v d →
  (∀ σ', Ok K F0 H0 (f env) σ' F H → (∀ vs : List Nat, (∀ i ∈ ix, i ∈ vs) → wipe σ' vs = wipe σ vs) → Q σ' H) → g v σ H Q
theorem wipe_set {i : Nat} {x : Option V} : ∀ {vs : List Nat} {σ : St}, i ∈ vs → wipe (σ.set i x) vs = wipe σ vs
  | [], _, h => by cases h
  | v :: vs, σ, h => by
    unfold wipe
    by_cases hv : i = v
    · subst hv
      by_cases hi : i ∈ vs
      · rw [wipe_set hi]
      · have : ∀ (vs : List Nat) (σ : St), i ∉ vs → wipe (σ.set i x) vs = (wipe σ vs).set i x := by
          intro vs
          induction vs with
          | nil => intro σ _; rfl
          | cons w ws ih =>
            intro σ hn
            simp only [List.mem_cons, not_or] at hn
            unfold wipe
            rw [ih σ hn.2, List.set_comm _ _ hn.1]
        rw [this vs σ hi, List.set_set]
    · rw [wipe_set (by simpa [hv] using h)]
theorem asg_name {i : Nat} : Asg K (gName i) d (fun env => env.set i (.dat d)) [i] := fun F0 H0 F H env σ v Q ok hd k => k _ (ok.setDat hd) fun vs h => wipe_set (h i (by simp))
theorem asg_nameA {i : Nat} (d : PyData) : Asg K (gName i) d (fun env => env.set i (.dat d)) [i] := asg_name
def AsgS (K : KF) (g : TGs) (ds : List PyData) (f : List Sl → List Sl) (ix : List Nat) : Prop := ∀ (F0 H0 F H : Hp) (env : List Sl) (σ : St) (vs : List V) (Q : St → Hp → Prop), Ok K F0 H0 env σ F H → DqAll K F vs ds →
  (∀ σ', Ok K F0 H0 (f env) σ' F H → (∀ vs : List Nat, (∀ i ∈ ix, i ∈ vs) → wipe σ' vs = wipe σ vs) → Q σ' H) → g vs σ H Q
theorem asg_nil : AsgS K gNil [] (fun env => env) [] := fun F0 H0 F H env σ vs Q ok hd k => by
  cases hd
  exact ⟨rfl, k σ ok fun _ _ => rfl⟩
theorem asg_cons {g : TG} {gs : TGs} {f fs : List Sl → List Sl} {ix jx : List Nat} (h1 : Asg K g d f ix) (h2 : AsgS K gs ds fs jx) : AsgS K (gCons g gs) (d :: ds) (fun env => fs (f env)) (ix ++ jx) := fun F0 H0 F H env σ vs Q ok hd k => by
  cases hd with
  | cons x1 x2 =>
    refine ⟨_, _, rfl, h1 F0 H0 F H env σ _ _ ok x1 fun σ1 ok1 w1 => h2 F0 H0 F H _ σ1 _ _ ok1 x2 fun σ2 ok2 w2 => k σ2 ok2 fun vs h => ?_⟩
    rw [w2 vs fun i hi => h i (List.mem_append_right _ hi), w1 vs fun i hi => h i (List.mem_append_left _ hi)]
theorem asg_tup {gs : TGs} {f : List Sl → List Sl} {ix : List Nat} {n : Nat} (h : AsgS K gs ds f ix) (hn : ds.length = n) : Asg K (gTup K n gs) (.tuple ds) f ix := fun F0 H0 F H env σ v Q ok hd k => by
  cases hd with
  | tup h1 h2 => exact ⟨_, _, rfl, ex_t ok.g.fh h1, by rw [h2.length, hn], h F0 H0 F H env σ _ _ ok h2 k⟩

/-! ### list comprehensions -/
def wipeE (env : List Sl) : List Nat → List Sl
  | [] => env
  | v :: vs => (wipeE env vs).set v .no
theorem Ok.wiped {F0 H0 F H : Hp} {σ : St} (ok : Ok K F0 H0 env σ F H) : ∀ vs : List Nat, Ok K F0 H0 (wipeE env vs) (wipe σ vs) F H
  | [] => ok
  | v :: vs => (Ok.wiped ok vs).setNo
abbrev Blk (X : Cx) (scope : Scope) (P : Cx → Prop) : Prop := ∀ (s : Shared) (H : Hp) (C : Addr) (cl : List (Str × Addr)) (fp : List Addr), P (X.blk s H scope (compEnvC scope cl C X.env) fp)
theorem pex {α : Type} {t : α → TE} (h : ∀ z, PE X e (t z)) : PE X e (fun σ H Q => ∃ z, t z σ H Q) := ⟨fun pins s σ H Q I ⟨z, q⟩ => (h z).run pins s σ H Q I q⟩
theorem ptex {α : Type} {t : α → TT} {ifs : List Expr} (h : ∀ z, PTs X ifs (t z)) : PTs X ifs (fun σ H Q => ∃ z, t z σ H Q) := ⟨fun pins s σ H Q I ⟨z, q⟩ => (h z).run pins s σ H Q I q⟩
theorem set_wipe {σ : St} {v : Nat} : ∀ {ws : List Nat}, v ∈ ws → (wipe σ ws).set v none = wipe σ ws
  | [], h => by cases h
  | w :: ws, h => by
    show ((wipe σ ws).set w none).set v none = (wipe σ ws).set w none
    by_cases e : v = w
    · subst e; rw [List.set_set]
    · rw [List.set_comm _ _ (fun q => e q.symm), set_wipe (by simpa [e] using h)]
theorem wipe_wipe {σ : St} : ∀ (vs ws : List Nat), (∀ v ∈ vs, v ∈ ws) → wipe (wipe σ ws) vs = wipe σ ws
  | [], _, _ => rfl
  | v :: vs, ws, h => by
    show (wipe (wipe σ ws) vs).set v none = wipe σ ws
    rw [wipe_wipe vs ws fun u hu => h u (by simp [hu]), set_wipe (h v (by simp))]
theorem lc_read {α : Type} {zs : List α} {enc : α → PyData} {g : TG} {ix : List Nat} {f : α → List Sl → List Sl} {tb : α → Bool} {y : α → PyData} {own : List Nat} (hl : zs.length ≤ 1000000)
    (hf : ∀ z ∈ zs, Asg K g (enc z) (f z) ix) (hix : ∀ i ∈ ix, i ∈ own) {σ : St} {H : Hp} {Q : VK} (h : tO K env ((zs.filter tb).map y) σ H Q) :
    tLc (tI K env (zs.map enc)) g (fun σ H Q => ∃ z, (z ∈ zs) ∧ tT K (f z (wipeE env own)) (tb z) σ H Q) (fun σ H Q => ∃ z, (z ∈ zs ∧ tb z = true) ∧ tE K true (f z (wipeE env own)) (y z) σ H Q) own σ H Q := by
  obtain ⟨F0, H0, F, ok, k⟩ := h
  refine ⟨F0, H0, F, ok, fun J F1 H1 g1 gv D hD => ?_⟩
  have ok1 := ok.grow g1
  refine ⟨fun i n H' => i ≤ zs.length ∧ n = zs.length - i ∧ ∃ F' acc, Grow F1 H1 F' H' ∧ F' D = none ∧ H' D = some (.lst acc) ∧ DqAll K F' acc (((zs.take i).filter tb).map y),
    ⟨zs.length, Nat.zero_le _, rfl, F1, [], Grow.own g1.fh hD, g1.fh.back hD, upd_same, .nil⟩, ?_⟩
  rintro i n H' ⟨hi, rfl, F', acc, g2, fd, hd, ha⟩
  by_cases hlt : i < zs.length
  · have hz : zs[i]? = some zs[i] := List.getElem?_eq_getElem hlt
    have hm : zs[i] ∈ zs := List.getElem_mem hlt
    refine .inr ⟨gv.go i F' H' (by rw [List.length_map]; exact hlt) g2.ff g2.fh, fun H2 => ∃ F2 acc, Grow F1 H1 F2 H2 ∧ F2 D = none ∧ H2 D = some (.lst acc) ∧ DqAll K F2 acc (((zs.take (i + 1)).filter tb).map y), fun H2 ⟨F2, acc2, q1, q2, q3, q4⟩ => ⟨zs.length - (i + 1), by omega, hlt, rfl, F2, acc2, q1, q2, q3, q4⟩, fun x H3 hy => ?_⟩
    obtain ⟨F3, g3, x3⟩ := gv.yld i (enc zs[i]) F' H' x H3 (by rw [List.getElem?_map, hz]; rfl) g2.ff g2.fh hy
    have ok3 : Ok K F0 H0 (wipeE env own) (wipe σ own) F3 H3 := (ok1.grow (g2.trans g3)).wiped own
    have hD3 : F3 D = none := g3.old D fd (by rw [hd]; simp)
    have hH3 : H3 D = some (.lst acc) := g3.hh _ _ hd
    refine hf zs[i] hm F0 H0 F3 H3 _ _ x _ ok3 x3 fun σ4 ok4 w4 => ⟨?_, zs[i], hm, F0, H0, F3, ok4, fun F5 H5 g5 => ?_⟩
    · rw [w4 own hix]
      exact wipe_wipe own own fun _ h => h
    · have hD5 : F5 D = none := g5.old D hD3 (by rw [hH3]; simp)
      have hH5 : H5 D = some (.lst acc) := g5.hh _ _ hH3
      have ht : (zs.take (i + 1)) = zs.take i ++ [zs[i]] := by rw [List.take_add_one, hz]; rfl
      cases hb : tb zs[i] with
      | true =>
        show ∃ z, _
        refine ⟨zs[i], ⟨hm, hb⟩, F0, H0, F5, ok4.grow g5, fun v F6 H6 g6 x6 => ⟨acc, g6.hh _ _ hH5, ?_, F6, acc ++ [v], ?_, g6.old D hD5 (by rw [hH5]; simp), upd_same, ?_⟩⟩
        · have h1 := ha.length
          have h2 : (((zs.take i).filter tb).map y).length ≤ zs.length := by
            rw [List.length_map]
            exact Nat.le_trans (List.length_filter_le _ _) (by rw [List.length_take]; omega)
          have h3 : sizeLine = 16777216 := sizeLine_eq
          omega
        · exact ((((g2.trans g3).trans g5).trans g6)).put hD (g6.old D hD5 (by rw [hH5]; simp))
        · rw [ht, List.filter_append, List.map_append, List.filter_cons, if_pos hb]
          exact (ha.up ((g3.ff.trans g5.ff).trans g6.ff)).append (.cons x6 .nil)
      | false =>
        refine ⟨F5, acc, (g2.trans g3).trans g5, hD5, hH5, ?_⟩
        rw [ht, List.filter_append, List.map_append, List.filter_cons, if_neg (by rw [hb]; decide)]
        show DqAll K F5 acc (_ ++ [])
        rw [List.append_nil]
        exact ha.up (g3.ff.trans g5.ff)
  · have e : i = zs.length := by omega
    subst e
    refine .inl ⟨gv.stop _ F' H' (by rw [List.length_map]; exact Nat.le_refl _) g2.ff g2.fh, k D acc F' H' (g1.trans g2) (g1.hh.back hD) fd hd ?_⟩
    rw [List.take_length] at ha
    exact ha
end
end D3
namespace D3
open PySem PySem.Spec L2

/-! ### comprehensions -/
section
variable {X : Cx} {K : KF} {e a b c : Expr} {es : List Expr} {m m1 m2 m3 : Bool} {env : List Sl} {d d1 d2 : PyData} {ds ds1 ds2 : List PyData} {pos p1 p2 p3 p4 : Pos}
theorem ts_nil : PTs X [] (tT K env true) := ⟨fun pins s σ H Q I ⟨F0, H0, F, ok, q⟩ => pts_nil.run pins s σ H Q I (q F H (Grow.refl ok.g.fh))⟩
theorem ts_one {k : Bool} (h : PT X c (tT K env k)) : PTs X [c] (tT K env k) := pts_one h
theorem o_lc {α : Type} {zs : List α} {enc : α → PyData} {g : TG} {ix : List Nat} {f : α → List Sl → List Sl} {tb : α → Bool} {y : α → PyData} {own : List (Str × Nat)} {tg iter elt : Expr} {ifs : List Expr} {scope : Scope}
    (hN : X.N.Nodup) (hi : PI X tg iter (tI X.K env (zs.map enc))) (hl : zs.length ≤ 1000000) (okb : blkC X.N X.env.scope scope own = true) (hg : Blk X scope fun X' => PG X' tg g)
    (hf : ∀ z ∈ zs, Asg X.K g (enc z) (f z) ix) (hix : ∀ i ∈ ix, i ∈ own.map (·.2))
    (ht : ∀ z ∈ zs, Blk X scope fun X' => PTs X' ifs (tT X.K (f z (wipeE env (own.map (·.2)))) (tb z)))
    (he : ∀ z ∈ zs, tb z = true → Blk X scope fun X' => PE X' elt (tE X.K true (f z (wipeE env (own.map (·.2)))) (y z)))
    (hc : X.calm = true := by rfl) (hs : ∀ x, foldedSetIterable iter X.env x = pure x := by intro _; rfl) : PE X (.ListComp elt [⟨tg, iter, ifs, 0⟩] scope pos) (tO X.K env ((zs.filter tb).map y)) :=
  pmono (pe_lc (te := fun σ H Q => ∃ z, (z ∈ zs ∧ tb z = true) ∧ tE X.K true (f z (wipeE env (own.map (·.2)))) (y z) σ H Q) (tt := fun σ H Q => ∃ z, (z ∈ zs) ∧ tT X.K (f z (wipeE env (own.map (·.2)))) (tb z) σ H Q) hc hN hi (blkOk_by okb) hg
    (fun s H C cl fp => ⟨fun pins s1 σ H Q I ⟨z, hz, q⟩ => (ht z hz s _ C cl fp).run pins s1 σ H Q I q⟩) (fun s H C cl fp => ⟨fun pins s1 σ H Q I ⟨z, hz, q⟩ => (he z hz.1 hz.2 s _ C cl fp).run pins s1 σ H Q I q⟩) hs) fun σ H Q h => lc_read hl hf hix h
theorem map_filter_true {α β : Type} (zs : List α) (y : α → β) : (zs.filter fun _ => true).map y = zs.map y := by
  rw [List.filter_eq_self.mpr fun _ _ => rfl]
/-- no test -/
theorem o_lcA {α : Type} {zs : List α} {enc : α → PyData} {g : TG} {ix : List Nat} {f : α → List Sl → List Sl} {y : α → PyData} {own : List (Str × Nat)} {tg iter elt : Expr} {scope : Scope}
    (hN : X.N.Nodup) (hi : PI X tg iter (tI X.K env (zs.map enc))) (hl : zs.length ≤ 1000000) (okb : blkC X.N X.env.scope scope own = true) (hg : Blk X scope fun X' => PG X' tg g)
    (hf : ∀ z ∈ zs, Asg X.K g (enc z) (f z) ix) (hix : ∀ i ∈ ix, i ∈ own.map (·.2))
    (he : ∀ z ∈ zs, Blk X scope fun X' => PE X' elt (tE X.K true (f z (wipeE env (own.map (·.2)))) (y z)))
    (hc : X.calm = true := by rfl) (hs : ∀ x, foldedSetIterable iter X.env x = pure x := by intro _; rfl) : PE X (.ListComp elt [⟨tg, iter, [], 0⟩] scope pos) (tO X.K env (zs.map y)) := by
  have h := o_lc (pos := pos) (tb := fun _ => true) hN hi hl okb hg hf hix (fun z _ s H C cl fp => ts_nil) (fun z hz _ => he z hz) hc hs
  rwa [map_filter_true] at h

/-! ### statements -/
inductive RS where
  | dat (d : PyData)
  | own (ds : List PyData)
  | exc (C : Addr) (d : PyData) (ep : List Sl → Prop) (W : WX)
  /-- a new tree -/
  | new (t : Ty) (d : PyData)
  /-- a new list of different new lists -/
  | tab (m : Nat) (dss : List (List PyData))
  /-- a tree of new lists, all different -/
  | tre (t : Tr)
structure DE where
  nx : List Sl → Prop
  rt : RS → Prop
  bk : List Sl → Prop := fun _ => False
  ct : List Sl → Prop := fun _ => False
/-- the lists of a new tree: all frozen, all new -/
def FreshR (K : KF) (H F' : Hp) (Φ : Reg) : Prop := ∀ (a : Addr) (e n : Nat) (t : Ty), Φ a = some (e, n, t) → e = 0 ∧ H a = none ∧ ∃ vs, F' a = some (.lst vs) ∧ vs.length ≤ n ∧ ∀ w ∈ vs, VT K F' Φ 0 t w
def NewTab (K : KF) (H F' H' : Hp) (m : Nat) (D : Addr) (vs : List V) (dss : List (List PyData)) : Prop := vs.Nodup ∧ vs.length = dss.length ∧ ∀ (k : Nat) (ds : List PyData), dss[k]? = some ds → ∃ p ws, vs[k]? = some (.ref p) ∧ p ≠ D ∧ H p = none ∧ F' p = none ∧ H' p = some (.lst ws) ∧ ws.length ≤ m ∧ DqAll K F' ws ds
def RtOk (K : KF) (F0 H0 : Hp) (r : RS) (Q : VK) : Prop := match r with
  | .dat d => ∀ v F' H', Grow F0 H0 F' H' → Dq K F' v d → Q v H'
  | .own ds => ∀ p vs F' H', Grow F0 H0 F' H' → H0 p = none → F' p = none → H' p = some (.lst vs) → DqAll K F' vs ds → Q (.ref p) H'
  | .exc C d ep W => ∀ env σ v dd F H, ep env → Ok K F0 H0 env σ F H → H dd = some (.xd [("at", v)]) → Dq K F v d → W (.ref C) (some dd) σ H
  | .new t d => ∀ v F' H' Φ, Grow F0 H0 F' H' → FreshR K H0 F' Φ → Dq K F' v d → VT K F' Φ 0 t v → Q v H'
  | .tab m dss => ∀ D vs F' H', Grow F0 H0 F' H' → H0 D = none → F' D = none → H' D = some (.lst vs) → NewTab K H0 F' H' m D vs dss → Q (.ref D) H'
  | .tre t => ∀ v F' H' A, Grow F0 H0 F' H' → TrAt K F' H' v t A → NewA H0 F' H' A → Q v H'
def tS (K : KF) (env : List Sl) (E : DE) : TS := fun D σ H => ∃ F0 H0 F, Ok K F0 H0 env σ F H ∧ (∀ env' σ' F' H', E.nx env' → Ok K F0 H0 env' σ' F' H' → D.nx σ' H') ∧
  (∀ env' σ' F' H', E.bk env' → Ok K F0 H0 env' σ' F' H' → D.bk σ' H') ∧ (∀ env' σ' F' H', E.ct env' → Ok K F0 H0 env' σ' F' H' → D.ct σ' H') ∧ ∀ r, E.rt r → RtOk K F0 H0 r D.rt
abbrev DE.to (E : DE) (M : List Sl → Prop) : DE := ⟨M, E.rt, E.bk, E.ct⟩
variable {E : DE} {st : Stmt} {rest : List Stmt} {sts : List Stmt}
theorem s_nil (h : E.nx env) : PSs X [] (tS K env E) := pssmono pss_nil fun D σ H ⟨F0, H0, F, ok, n, _⟩ => n env σ F H h ok
theorem s_cons {M : List Sl → Prop} (h1 : PS X st (tS K env (E.to M))) (h2 : ∀ env', M env' → PSs X rest (tS K env' E)) : PSs X (st :: rest) (tS K env E) :=
  pssmono (pss_cons (u := fun D σ H => ∃ env', M env' ∧ tS K env' E D σ H) h1 ⟨fun pins s σ H D I ⟨e', hm, q⟩ => (h2 e' hm).run pins s σ H D I q⟩) fun D σ H ⟨F0, H0, F, ok, n, bk, ct, rt⟩ =>
    ⟨F0, H0, F, ok, fun e' σ' F' H' hm ok' => ⟨e', hm, F0, H0, F', ok', n, bk, ct, rt⟩, bk, ct, rt⟩
/-- one way on -/
theorem s_then {env' : List Sl} (h1 : PS X st (tS K env (E.to (· = env')))) (h2 : PSs X rest (tS K env' E)) : PSs X (st :: rest) (tS K env E) := s_cons h1 fun e q => q ▸ h2
/-- no way on -/
theorem s_last (h1 : PS X st (tS K env E)) : PSs X [st] (tS K env E) := pss_one h1
theorem s_stop (h1 : PS X st (tS K env (E.to fun _ => False))) : PSs X (st :: rest) (tS K env E) := s_cons h1 fun e q => q.elim
theorem s_pass (h : E.nx env) : PS X (.Pass pos) (tS K env E) := psmono ps_pass fun D σ H ⟨F0, H0, F, ok, n, _⟩ => n env σ F H h ok
theorem s_brk (h : E.bk env) : PS X (.Break pos) (tS K env E) := psmono ps_break fun D σ H ⟨F0, H0, F, ok, _, n, _⟩ => n env σ F H h ok
theorem s_cont (h : E.ct env) : PS X (.Continue pos) (tS K env E) := psmono ps_continue fun D σ H ⟨F0, H0, F, ok, _, _, n, _⟩ => n env σ F H h ok
theorem s_set {x : Str} (i : Nat) (hN : X.N.Nodup) (hi : X.N[i]? = some x) (he : PE X e (tE K true env d)) (h : E.nx (env.set i (.dat d))) (hx : Loc X.env.scope x := by first | exact .inl rfl | exact .inr rfl)
    (hs : swapsWith e (some (.Name x p1)) pos.line X.env = pure false := by rfl) (hf : X.fn x = true ∨ X.env.scope.names.lookup x = some .local := by first | exact .inl rfl | exact .inr rfl) : PS X (.Assign [.Name x p1] e pos) (tS K env E) :=
  psmono (ps_set hN hi hx he hs hf) fun D σ H ⟨F0, H0, F, ok, n, _⟩ => ⟨F0, H0, F, ok, fun v F1 H1 g1 x1 => n _ _ F1 H1 h ((ok.grow g1).setDat x1)⟩
theorem own_new {F0 H0 F H F1 H1 : Hp} {σ : St} {p : Addr} (ok : Ok K F0 H0 env σ F H) (hp : H p = none) : ∀ (j : Nat) (es : List PyData), env[j]? = some (.own es) → σ[j]? ≠ some (some (.ref p)) := fun j es h z => by
  obtain ⟨q, vs, h1, _, _, h2, _⟩ := ok.own j es h
  rw [z] at h1; cases h1
  rw [hp] at h2; cases h2
theorem s_setO {x : Str} (i : Nat) (hN : X.N.Nodup) (hi : X.N[i]? = some x) (he : PE X e (tO K env ds)) (h : E.nx (env.set i (.own ds))) (hx : Loc X.env.scope x := by first | exact .inl rfl | exact .inr rfl)
    (hs : swapsWith e (some (.Name x p1)) pos.line X.env = pure false := by rfl) (hf : X.fn x = true ∨ X.env.scope.names.lookup x = some .local := by first | exact .inl rfl | exact .inr rfl) : PS X (.Assign [.Name x p1] e pos) (tS K env E) :=
  psmono (ps_set hN hi hx he hs hf) fun D σ H ⟨F0, H0, F, ok, n, _⟩ => ⟨F0, H0, F, ok, fun p vs F1 H1 g1 h1 h2 h3 h4 => n _ _ F1 H1 h (ok.newOwn g1 h1 h2 h3 h4)⟩
/-- y = [.. for ..] -/
theorem s_setLc {α : Type} {zs : List α} {enc : α → PyData} {g : TG} {ix : List Nat} {f : α → List Sl → List Sl} {tb : α → Bool} {y : α → PyData} {own : List (Str × Nat)} {tg iter elt : Expr} {ifs : List Expr} {scope : Scope} {x : Str} {py spos : Pos} (i : Nat)
    (hN : X.N.Nodup) (hxi : X.N[i]? = some x) (hi : PI X tg iter (tI X.K env (zs.map enc))) (hl : zs.length ≤ 1000000) (okb : blkC X.N X.env.scope scope own = true) (hg : Blk X scope fun X' => PG X' tg g)
    (hf : ∀ z ∈ zs, Asg X.K g (enc z) (f z) ix) (hix : ∀ i ∈ ix, i ∈ own.map (·.2))
    (ht : ∀ z ∈ zs, Blk X scope fun X' => PTs X' ifs (tT X.K (f z (wipeE env (own.map (·.2)))) (tb z)))
    (he : ∀ z ∈ zs, tb z = true → Blk X scope fun X' => PE X' elt (tE X.K true (f z (wipeE env (own.map (·.2)))) (y z)))
    (h : E.nx (env.set i (.own ((zs.filter tb).map y)))) (hsw : swapsWith (.ListComp elt [⟨tg, iter, ifs, 0⟩] scope pos) (some (.Name x py)) spos.line X.env = pure true) (hyl : X.env.scope.names.lookup x = some .local := by rfl)
    (hc : X.calm = true := by rfl) (hs : ∀ x, foldedSetIterable iter X.env x = pure x := by intro _; rfl) : PS X (.Assign [.Name x py] (.ListComp elt [⟨tg, iter, ifs, 0⟩] scope pos) spos) (tS X.K env E) :=
  psmono (ps_setLc (te := fun σ H Q => ∃ z, (z ∈ zs ∧ tb z = true) ∧ tE X.K true (f z (wipeE env (own.map (·.2)))) (y z) σ H Q) (tt := fun σ H Q => ∃ z, (z ∈ zs) ∧ tT X.K (f z (wipeE env (own.map (·.2)))) (tb z) σ H Q) hc hN hxi hyl hsw hi (blkOk_by okb) hg
    (fun s H C cl fp => ⟨fun pins s1 σ H Q I ⟨z, hz, q⟩ => (ht z hz s _ C cl fp).run pins s1 σ H Q I q⟩) (fun s H C cl fp => ⟨fun pins s1 σ H Q I ⟨z, hz, q⟩ => (he z hz.1 hz.2 s _ C cl fp).run pins s1 σ H Q I q⟩) hs) fun D σ H ⟨F0, H0, F, ok, n, _⟩ =>
      lc_read hl hf hix ⟨F0, H0, F, ok, fun p vs F1 H1 g1 h1 h2 h3 h4 => n _ _ F1 H1 h (ok.newOwn g1 h1 h2 h3 h4)⟩
theorem s_setLcA {α : Type} {zs : List α} {enc : α → PyData} {g : TG} {ix : List Nat} {f : α → List Sl → List Sl} {y : α → PyData} {own : List (Str × Nat)} {tg iter elt : Expr} {scope : Scope} {x : Str} {py spos : Pos} (i : Nat)
    (hN : X.N.Nodup) (hxi : X.N[i]? = some x) (hi : PI X tg iter (tI X.K env (zs.map enc))) (hl : zs.length ≤ 1000000) (okb : blkC X.N X.env.scope scope own = true) (hg : Blk X scope fun X' => PG X' tg g)
    (hf : ∀ z ∈ zs, Asg X.K g (enc z) (f z) ix) (hix : ∀ i ∈ ix, i ∈ own.map (·.2))
    (he : ∀ z ∈ zs, Blk X scope fun X' => PE X' elt (tE X.K true (f z (wipeE env (own.map (·.2)))) (y z)))
    (h : E.nx (env.set i (.own (zs.map y)))) (hsw : swapsWith (.ListComp elt [⟨tg, iter, [], 0⟩] scope pos) (some (.Name x py)) spos.line X.env = pure true) (hyl : X.env.scope.names.lookup x = some .local := by rfl)
    (hc : X.calm = true := by rfl) (hs : ∀ x, foldedSetIterable iter X.env x = pure x := by intro _; rfl) : PS X (.Assign [.Name x py] (.ListComp elt [⟨tg, iter, [], 0⟩] scope pos) spos) (tS X.K env E) :=
  s_setLc (tb := fun _ => true) i hN hxi hi hl okb hg hf hix (fun z _ s H C cl fp => ts_nil) (fun z hz _ => he z hz) (by rw [map_filter_true]; exact h) hsw hyl hc hs
theorem s_if {k : Bool} {t1 t2 : List Stmt} (hc : PT X c (tT K env k)) (h1 : k = true → PSs X t1 (tS K env E)) (h2 : k = false → PSs X t2 (tS K env E)) : PS X (.If c t1 t2 pos) (tS K env E) := by
  have never : ∀ {sts : List Stmt}, PSs X sts (fun _ _ _ => False) := fun {sts} => ⟨fun _ _ _ _ _ _ h => h.elim⟩
  cases k with
  | true => exact psmono (ps_if hc (h1 rfl) never) fun D σ H ⟨F0, H0, F, ok, r⟩ => ⟨F0, H0, F, ok, fun F1 H1 g1 => ⟨F0, H0, F1, ok.grow g1, r⟩⟩
  | false => exact psmono (ps_if hc never (h2 rfl)) fun D σ H ⟨F0, H0, F, ok, r⟩ => ⟨F0, H0, F, ok, fun F1 H1 g1 => ⟨F0, H0, F1, ok.grow g1, r⟩⟩
theorem s_ret (he : PE X e (tE K true env d)) (h : E.rt (.dat d)) : PS X (.Return (some e) pos) (tS K env E) :=
  psmono (ps_ret he) fun D σ H ⟨F0, H0, F, ok, n, b, c, r⟩ => ⟨F0, H0, F, ok, fun v F1 H1 g1 x1 => r _ h v F1 H1 (ok.g.trans g1) x1⟩
theorem s_retO (he : PE X e (tO K env ds)) (h : E.rt (.own ds)) : PS X (.Return (some e) pos) (tS K env E) :=
  psmono (ps_ret he) fun D σ H ⟨F0, H0, F, ok, n, b, c, r⟩ => ⟨F0, H0, F, ok, fun p vs F1 H1 g1 h1 h2 h3 h4 => r _ h p vs F1 H1 (ok.g.trans g1) (ok.g.hh.back h1) h2 h3 h4⟩
theorem s_retN (h : E.rt (.dat .none)) : PS X (.Return none pos) (tS K env E) :=
  psmono ps_retN fun D σ H ⟨F0, H0, F, ok, n, b, c, r⟩ => r _ h .non F H ok.g .non
theorem s_retV {x : Str} (i : Nat) (hi : X.N[i]? = some x) (hv : Vis X.env.scope x) (ho : env[i]? = some (.own ds)) (h : E.rt (.own ds)) (hd : (x == ("__debug__" : Str)) = false := by decide) (hcd : (x == ("__classdict__" : Str)) = false := by decide) : PS X (.Return (some (.Name x p1)) pos) (tS K env E) :=
  psmono (ps_ret (pe_var hi hv hd hcd)) fun D σ H ⟨F0, H0, F, ok, n, b, c, r⟩ => by
    obtain ⟨p, vs, h1, h2, h3, h4, h5⟩ := ok.own i ds ho
    exact ⟨.ref p, h1, r _ h p vs F H ok.g h3 h2 h4 h5⟩
theorem s_app {x : Str} (i : Nat) (hi : X.N[i]? = some x) (hv : Vis X.env.scope x) (ho : env[i]? = some (.own ds)) (he : PE X e (tE X.K true env d)) (hz : ds.length < sizeLine) (h : E.nx (env.set i (.own (ds ++ [d]))))
    (hd : (x == ("__debug__" : Str)) = false := by decide) (hcd : (x == ("__classdict__" : Str)) = false := by decide) (na : NS X e := by exact fun _ => rfl)
    (hbase : attributeBase (.Name x p1) "append" X.env (eval (.Name x p1) X.env) = eval (.Name x p1) X.env := by rfl) (hline : (p2.endLine == p3.line) = true := by rfl)
    (hs : swapsWith (.Call (.Attribute (.Name x p1) "append" p2) [e] [] p3) none pos.line X.env = pure false := by rfl) : PS X (.Expr (.Call (.Attribute (.Name x p1) "append" p2) [e] [] p3) pos) (tS X.K env E) :=
  psmono (ps_expr (pe_bm (hline := hline) PySem.F.plainAttrs_list PySem.F.slot_list_append PySem.F.type_list_append mt_append (pe_var hi hv hd hcd) (pa_cons he pa_nil (na [])) (hs := na []) (hfew := by rw [na []]; rfl) (hbase := hbase)) hs) fun D σ H ⟨F0, H0, F, ok, n, _⟩ => by
    obtain ⟨p, vs, h1, h2, h3, h4, h5⟩ := ok.own i ds ho
    refine ⟨.ref p, h1, .inl ⟨rfl, _, .inl (.inl h4)⟩, F0, H0, F, ok, fun v F1 H1 g1 x1 => ?_⟩
    have h6 := g1.hh _ _ h4
    refine ⟨p, vs, v, rfl, rfl, h6, by rw [h5.length]; exact hz, n _ _ F1 _ h ((ok.grow g1).put ho h1 ((h5.up g1.ff).append (.cons x1 .nil)))⟩
theorem s_setIx {x : Str} {k : Int} {j : Nat} (i : Nat) (hi : X.N[i]? = some x) (hv : Vis X.env.scope x) (ho : env[i]? = some (.own ds)) (he : PE X e (tE X.K true env d)) (hb : PE X b (tE X.K true env (.int k))) (hj : ixN ds.length k = some j) (h : E.nx (env.set i (.own (ds.set j d))))
    (hd : (x == ("__debug__" : Str)) = false := by decide) (hcd : (x == ("__classdict__" : Str)) = false := by decide) (hg : ∀ {t : TSet}, PSet X t → PG X (.Subscript (.Name x p1) b p2) (gSub (tVar i) (tE X.K true env (.int k)) t))
    (hs : swapsWithSole [.Subscript (.Name x p1) b p2] e pos.line X.env = pure false := by rfl) (hw : swappedStores [.Subscript (.Name x p1) b p2] e X.env = pure none := by rfl) : PS X (.Assign [.Subscript (.Name x p1) b p2] e pos) (tS X.K env E) :=
  psmono (ps_asg he (hg set_list) hs hw) fun D σ H ⟨F0, H0, F, ok, n, _⟩ => ⟨F0, H0, F, ok, fun v F1 H1 g1 x1 => by
    obtain ⟨p, vs, h1, h2, h3, h4, h5⟩ := ok.own i ds ho
    refine ⟨.ref p, h1, F0, H0, F1, ok.grow g1, fun w F2 H2 g2 x2 => ?_⟩
    cases x2
    exact ⟨p, vs, k, j, rfl, rfl, g2.hh _ _ (g1.hh _ _ h4), by rw [h5.length]; exact hj, n _ _ F2 _ h (((ok.grow g1).grow g2).put ho h1 (DqAll.set (x1.up g2.ff) j (h5.up (g1.ff.trans g2.ff))))⟩⟩
theorem s_drop (he : PE X e (tE K true env d)) (h : E.nx env) (hs : swapsWith e none pos.line X.env = pure false := by rfl) : PS X (.Expr e pos) (tS K env E) :=
  psmono (ps_expr he hs) fun D σ H ⟨F0, H0, F, ok, n, _⟩ => ⟨F0, H0, F, ok, fun v F1 H1 g1 x1 => n _ _ F1 H1 h (ok.grow g1)⟩

/-! ### weaker states -/
def LeE : List Sl → List Sl → Prop
  | [], [] => True
  | a :: as, b :: bs => (b = .no ∨ a = b) ∧ LeE as bs
  | _, _ => False
theorem LeE.refl : ∀ env : List Sl, LeE env env
  | [] => trivial
  | _ :: as => ⟨.inr rfl, LeE.refl as⟩
theorem LeE.get : ∀ {as bs : List Sl} {i : Nat} {s : Sl}, LeE as bs → bs[i]? = some s → s ≠ .no → as[i]? = some s
  | [], [], i, s, _, h, _ => by simp at h
  | a :: as, b :: bs, 0, s, h, e, n => by
    simp at e; subst e
    rcases h.1 with h | h
    · exact absurd h n
    · rw [h]; rfl
  | a :: as, b :: bs, i + 1, s, h, e, n => by
    have := LeE.get (i := i) h.2 (by simpa using e) n
    simpa using this
  | [], _ :: _, _, _, h, _, _ => h.elim
  | _ :: _, [], _, _, h, _, _ => h.elim
theorem LeE.len : ∀ {as bs : List Sl}, LeE as bs → as.length = bs.length
  | [], [], _ => rfl
  | a :: as, b :: bs, h => by simp [LeE.len h.2]
  | [], _ :: _, h => h.elim
  | _ :: _, [], h => h.elim
theorem Ok.le {F0 H0 F H : Hp} {σ : St} {env' : List Sl} (ok : Ok K F0 H0 env σ F H) (h : LeE env env') : Ok K F0 H0 env' σ F H :=
  ⟨ok.g, fun i d e => ok.dat i d (h.get e (by intro z; cases z)), fun i d e => ok.own i d (h.get e (by intro z; cases z)), fun i j ds es p e1 e2 => ok.sep i j ds es p (h.get e1 (by intro z; cases z)) (h.get e2 (by intro z; cases z)),
    fun i d e => ok.scr i d (h.get e (by intro z; cases z)), fun i a dd d e => ok.exc i a dd d (h.get e (by intro z; cases z)), by rw [ok.len, h.len], by
    obtain ⟨Φ, c, m⟩ := ok.tre
    exact ⟨Φ, c, m.weak fun i s z hn => h.get z hn⟩⟩
theorem s_le {env' : List Sl} (h : LeE env env') (k : PSs X sts (tS K env' E)) : PSs X sts (tS K env E) := pssmono k fun D σ H ⟨F0, H0, F, ok, r⟩ => ⟨F0, H0, F, ok.le h, r⟩
theorem s_le1 {env' : List Sl} (h : LeE env env') (k : PS X st (tS K env' E)) : PS X st (tS K env E) := psmono k fun D σ H ⟨F0, H0, F, ok, r⟩ => ⟨F0, H0, F, ok.le h, r⟩
theorem s_frz {i : Nat} (ho : env[i]? = some (.own ds)) (k : PSs X sts (tS K (env.set i (.dat (.list ds))) E)) : PSs X sts (tS K env E) := pssmono k fun D σ H ⟨F0, H0, F, ok, r⟩ => by
  obtain ⟨F', _, _, ok'⟩ := ok.freeze ho
  exact ⟨F0, H0, F', ok', r⟩
theorem s_frz1 {i : Nat} (ho : env[i]? = some (.own ds)) (k : PS X st (tS K (env.set i (.dat (.list ds))) E)) : PS X st (tS K env E) := psmono k fun D σ H ⟨F0, H0, F, ok, r⟩ => by
  obtain ⟨F', _, _, ok'⟩ := ok.freeze ho
  exact ⟨F0, H0, F', ok', r⟩

/-! ### loops -/
theorem Grow.rebase {F0 H0 F1 H1 F H : Hp} (g1 : Grow F0 H0 F1 H1) (g : Grow F0 H0 F H) (e : Ex F1 F) : Grow F1 H0 F H :=
  ⟨e, g.hh, g.fh, fun a h0 h1 => g.old a (g1.ff.back h0) h1⟩
theorem Grow.unbase {F0 H0 F1 H1 F H : Hp} (g1 : Grow F0 H0 F1 H1) (g : Grow F1 H0 F H) : Grow F0 H0 F H :=
  ⟨g1.ff.trans g.ff, g.hh, g.fh, fun a h0 h1 => g.old a (g1.old a h0 h1) h1⟩
theorem Ok.rebase {F0 H0 F1 H1 F H : Hp} {σ : St} (g1 : Grow F0 H0 F1 H1) (ok : Ok K F0 H0 env σ F H) (e : Ex F1 F) : Ok K F1 H0 env σ F H := ⟨g1.rebase ok.g e, ok.dat, ok.own, ok.sep, ok.scr, ok.exc, ok.len, ok.tre⟩
theorem Ok.unbase {F0 H0 F1 H1 F H : Hp} {σ : St} (g1 : Grow F0 H0 F1 H1) (ok : Ok K F1 H0 env σ F H) : Ok K F0 H0 env σ F H := ⟨g1.unbase ok.g, ok.dat, ok.own, ok.sep, ok.scr, ok.exc, ok.len, ok.tre⟩
theorem RtOk.rebase {F0 H0 F1 H1 : Hp} {r : RS} {Q : VK} (g1 : Grow F0 H0 F1 H1) (h : RtOk K F0 H0 r Q) : RtOk K F1 H0 r Q := by
  cases r with
  | dat d => exact fun v F' H' g x => h v F' H' (g1.unbase g) x
  | own ds => exact fun p vs F' H' g a b c d => h p vs F' H' (g1.unbase g) a b c d
  | exc C d ep W => exact fun env σ v dd F' H' he ok a b => h env σ v dd F' H' he (ok.unbase g1) a b
  | new t d => exact fun v F' H' Φ g a b c => h v F' H' Φ (g1.unbase g) a b c
  | tab m dss => exact fun D vs F' H' g a b c d => h D vs F' H' (g1.unbase g) a b c d
  | tre t => exact fun v F' H' A g a b => h v F' H' A (g1.unbase g) a b
theorem s_for {α : Type} {zs : List α} {enc : α → PyData} {g : TG} {ix : List Nat} {f : α → List Sl → List Sl} {tg iter : Expr} {body : List Stmt} (I : Nat → List Sl → Prop) (hp : PassesOwn (model X.prog X.w) X.A X.env X.xe)
    (hi : PI X tg iter (tI X.K env (zs.map enc))) (hg : PG X tg g) (hf : ∀ z ∈ zs, Asg X.K g (enc z) (f z) ix) (h0 : I 0 env)
    (hb : ∀ (i : Nat) z env', zs[i]? = some z → I i env' → PSs X body (tS X.K (f z env') ⟨I (i + 1), E.rt, E.nx, I (i + 1)⟩)) (hd : ∀ env', I zs.length env' → E.nx env')
    (hc : X.calm = true := by rfl) (hs : ∀ x, foldedSetIterable iter X.env x = pure x := by intro _; rfl) : PS X (.For tg iter body [] pos) (tS X.K env E) :=
  psmono (ps_for (tb := fun D σ H => ∃ (i : Nat) (z : α) (env' : List Sl), (zs[i]? = some z ∧ I i env') ∧ tS X.K (f z env') ⟨I (i + 1), E.rt, E.nx, I (i + 1)⟩ D σ H) hp hc hi hg ⟨fun pins s σ H D J ⟨i, z, e', h, q⟩ => (hb i z e' h.1 h.2).run pins s σ H D J q⟩ hs) fun D σ H ⟨F0, H0, F, ok, n, bk, ct, rt⟩ => by
    refine ⟨F0, H0, F, ok, fun J F1 H1 g1 gv => ⟨fun i m σ' H' => i ≤ zs.length ∧ m = zs.length - i ∧ ∃ env' F', I i env' ∧ Ok X.K F0 H0 env' σ' F' H' ∧ Ex F1 F', ⟨zs.length, Nat.zero_le _, rfl, env, F1, h0, ok.grow g1, Ex.refl _⟩, ?_⟩⟩
    have gb : Grow F0 H0 F1 H1 := ok.g.trans g1
    rintro i m σ' H' ⟨hle, rfl, env', F', hI, ok', ex⟩
    by_cases hlt : i < zs.length
    · have hz : zs[i]? = some zs[i] := List.getElem?_eq_getElem hlt
      refine .inr ⟨gv.go i F' H' (by rw [List.length_map]; exact hlt) ex ok'.g.fh, fun σ2 H2 => ∃ env2 F2, I (i + 1) env2 ∧ Ok X.K F0 H0 env2 σ2 F2 H2 ∧ Ex F1 F2, fun σ2 H2 ⟨env2, F2, q1, q2, q3⟩ => ⟨zs.length - (i + 1), by omega, hlt, rfl, env2, F2, q1, q2, q3⟩, fun x H3 hy => ?_⟩
      obtain ⟨F3, g3, x3⟩ := gv.yld i (enc zs[i]) F' H' x H3 (by rw [List.getElem?_map, hz]; rfl) ex ok'.g.fh hy
      refine hf zs[i] (List.getElem_mem hlt) F0 H0 F3 H3 env' σ' x _ (ok'.grow g3) x3 fun σ4 ok4 _ => ?_
      refine ⟨i, zs[i], env', ⟨hz, hI⟩, F1, H0, F3, ok4.rebase gb (ex.trans g3.ff), fun e2 σ2 F2 H2 h2 ok2 => ⟨e2, F2, h2, ok2.unbase gb, ok2.g.ff⟩, fun e2 σ2 F2 H2 h2 ok2 => n e2 σ2 F2 H2 h2 (ok2.unbase gb), fun e2 σ2 F2 H2 h2 ok2 => ⟨e2, F2, h2, ok2.unbase gb, ok2.g.ff⟩, fun r hr => (rt r hr).rebase gb⟩
    · have e : i = zs.length := by omega
      subst e
      exact .inl ⟨gv.stop _ F' H' (by rw [List.length_map]; exact Nat.le_refl _) ex ok'.g.fh, n env' σ' F' H' (hd env' hI) ok'⟩
/-- the state ahead of each turn, at least -/
theorem s_forE {α : Type} {zs : List α} {enc : α → PyData} {g : TG} {ix : List Nat} {f : α → List Sl → List Sl} {tg iter : Expr} {body : List Stmt} (T : Nat → List Sl) (hp : PassesOwn (model X.prog X.w) X.A X.env X.xe)
    (hi : PI X tg iter (tI X.K env (zs.map enc))) (hg : PG X tg g) (hf : ∀ z ∈ zs, Asg X.K g (enc z) (f z) ix) (hfl : ∀ z e1 e2, LeE e1 e2 → LeE (f z e1) (f z e2)) (h0 : LeE env (T 0))
    (hb : ∀ (i : Nat) z, zs[i]? = some z → PSs X body (tS X.K (f z (T i)) ⟨fun e => LeE e (T (i + 1)), E.rt, E.nx, fun e => LeE e (T (i + 1))⟩)) (hd : ∀ e, LeE e (T zs.length) → E.nx e)
    (hc : X.calm = true := by rfl) (hs : ∀ x, foldedSetIterable iter X.env x = pure x := by intro _; rfl) : PS X (.For tg iter body [] pos) (tS X.K env E) :=
  s_for (fun i e => LeE e (T i)) hp hi hg hf h0 (fun i z env' hz hI => s_le (hfl z _ _ hI) (hb i z hz)) hd hc hs
theorem s_while {body : List Stmt} {k : List Sl → Bool} (I : Nat → List Sl → Prop) (hp : PassesOwn (model X.prog X.w) X.A X.env X.xe) {n : Nat} (h0 : I n env)
    (hc : ∀ i env', I i env' → PT X c (tT X.K env' (k env')))
    (hb : ∀ (i : Nat) env', I i env' → k env' = true → PSs X body (tS X.K env' ⟨fun e => ∃ j, j < i ∧ I j e, E.rt, E.nx, fun e => ∃ j, j < i ∧ I j e⟩)) (hd : ∀ i env', I i env' → k env' = false → E.nx env') : PS X (.While c body [] pos) (tS X.K env E) :=
  psmono (ps_while (tc := fun σ H Q => ∃ (i : Nat) (env' : List Sl), I i env' ∧ tT X.K env' (k env') σ H Q) (tb := fun D σ H => ∃ (i : Nat) (env' : List Sl), (I i env' ∧ k env' = true) ∧ tS X.K env' ⟨fun e => ∃ j, j < i ∧ I j e, E.rt, E.nx, fun e => ∃ j, j < i ∧ I j e⟩ D σ H) hp
    ⟨fun pins s σ H Q J ⟨i, e', h, q⟩ => (hc i e' h).run pins s σ H Q J q⟩ ⟨fun pins s σ H D J ⟨i, e', h, q⟩ => (hb i e' h.1 h.2).run pins s σ H D J q⟩) fun D σ H ⟨F0, H0, F, ok, nx, bk, ct, rt⟩ => by
    refine ⟨fun m σ' H' => ∃ env' F', I m env' ∧ Ok X.K F0 H0 env' σ' F' H', ⟨n, env, F, h0, ok⟩, ?_⟩
    rintro m σ' H' ⟨env', F', hI, ok'⟩
    refine ⟨m, env', hI, F0, H0, F', ok', fun F1 H1 g1 => ?_⟩
    cases hk : k env' with
    | true =>
      show ∃ N : L2.St → Hp → Prop, _
      refine ⟨fun σ2 H2 => ∃ j, j < m ∧ ∃ env2 F2, I j env2 ∧ Ok X.K F0 H0 env2 σ2 F2 H2, fun σ2 H2 ⟨j, hj, q⟩ => ⟨j, hj, q⟩, m, env', ⟨hI, hk⟩, F0, H0, F1, ok'.grow g1, fun e2 σ2 F2 H2 ⟨j, hj, hI2⟩ ok2 => ⟨j, hj, e2, F2, hI2, ok2⟩, nx, fun e2 σ2 F2 H2 ⟨j, hj, hI2⟩ ok2 => ⟨j, hj, e2, F2, hI2, ok2⟩, rt⟩
    | false => exact nx env' σ' F1 H1 (hd m env' hI hk) (ok'.grow g1)
end

/-! ### defs -/
def spD (K : KF) (n : Nat) (R : List PyData → RS → Prop) : Sp := fun vs H Q _ => ∃ F ds r, Ex F H ∧ DqAll K F vs ds ∧ ds.length = n ∧ R ds r ∧ RtOk K F H r Q
def spScr (K : KF) (R : List Int → RS → Prop) : Sp := fun vs H Q _ => ∃ F a ns r, vs = [V.ref a] ∧ Ex F H ∧ SqL K F a (ns.map V.int) ∧ R ns r ∧ RtOk K F H r Q
def env0 (n : Nat) (ds : List PyData) : List Sl := ds.map .dat ++ List.replicate (n - ds.length) .no
theorem plain_of {env : List Sl} (h : ∀ s ∈ env, plainS s) : plainE env := fun i s hs => by
  have := h s (List.mem_of_getElem? hs)
  cases s <;> first | exact this.elim | exact ⟨(fun _ z => by cases z), (fun _ _ _ _ z => by cases z), (fun _ _ z => by cases z), (fun _ _ _ _ _ _ z => by cases z), (fun _ _ _ _ _ z => by cases z), (fun _ _ z => by cases z)⟩
theorem ok_start {K : KF} {F H : Hp} {vs : List V} {ds : List PyData} (N : List Str) (e : Ex F H) (h : DqAll K F vs ds) : Ok K F H (env0 N.length ds) (L2.start N vs) F H := by
  have hl := h.length
  refine ⟨⟨Ex.refl _, Ex.refl _, e, fun a h0 _ => h0⟩, fun i d he => ?_, fun i d he => ?_, fun i j d d' p he he' => ?_, fun i d he => ?_, fun i a dd d he => ?_, ?_, _, _, Mes.start (plain_of fun s hs => by
    unfold env0 at hs
    rcases List.mem_append.mp hs with z | z
    · obtain ⟨d, _, rfl⟩ := List.mem_map.mp z; trivial
    · rw [(List.mem_replicate.mp z).2]; trivial)⟩
  · unfold env0 at he
    by_cases hi : i < ds.length
    · rw [List.getElem?_append_left (by rw [List.length_map]; exact hi), List.getElem?_map] at he
      cases hd : ds[i]? with
      | none => rw [hd] at he; cases he
      | some d' =>
        rw [hd] at he
        cases he
        obtain ⟨v, h1, h2⟩ := h.get hd
        refine ⟨v, ?_, h2⟩
        unfold L2.start
        rw [List.getElem?_append_left (by rw [List.length_map]; omega), List.getElem?_map, h1]
        rfl
    · rw [List.getElem?_append_right (by rw [List.length_map]; omega), List.getElem?_replicate] at he
      split at he <;> cases he
  all_goals try (unfold env0 at he; by_cases hi : i < ds.length)
  · rw [List.getElem?_append_left (by rw [List.length_map]; exact hi), List.getElem?_map] at he
    cases hd : ds[i]? with
    | none => rw [hd] at he; cases he
    | some d' => rw [hd] at he; cases he
  · rw [List.getElem?_append_right (by rw [List.length_map]; omega), List.getElem?_replicate] at he
    split at he <;> cases he
  · rw [List.getElem?_append_left (by rw [List.length_map]; exact hi), List.getElem?_map] at he
    cases hd : ds[i]? with
    | none => rw [hd] at he; cases he
    | some d' => rw [hd] at he; cases he
  · rw [List.getElem?_append_right (by rw [List.length_map]; omega), List.getElem?_replicate] at he
    split at he <;> cases he
  · rw [List.getElem?_append_left (by rw [List.length_map]; exact hi), List.getElem?_map] at he
    cases hd : ds[i]? with
    | none => rw [hd] at he; cases he
    | some d' => rw [hd] at he; cases he
  · rw [List.getElem?_append_right (by rw [List.length_map]; omega), List.getElem?_replicate] at he
    split at he <;> cases he
  · rw [List.getElem?_append_left (by rw [List.length_map]; exact hi), List.getElem?_map] at he
    cases hd : ds[i]? with
    | none => rw [hd] at he; cases he
    | some d' => rw [hd] at he; cases he
  · rw [List.getElem?_append_right (by rw [List.length_map]; omega), List.getElem?_replicate] at he
    split at he <;> cases he
  · unfold L2.start env0
    rw [List.length_append, List.length_append, List.length_map, List.length_map, List.length_replicate, List.length_replicate, hl]
theorem ok_scr {K : KF} {F H : Hp} {a : Addr} {ns : List Int} (N : List Str) (e : Ex F H) (h : SqL K F a (ns.map V.int)) : Ok K F H (.scr ns :: List.replicate (N.length - 1) .no) (L2.start N [.ref a]) F H := by
  refine ⟨⟨Ex.refl _, Ex.refl _, e, fun a h0 _ => h0⟩, fun i d he => ?_, fun i d he => ?_, fun i j d d' p he he' => ?_, fun i d he => ?_, fun i a dd d he => ?_, ?_, _, _, Mes.start (plain_of fun s hs => by
    rcases List.mem_cons.mp hs with rfl | z
    · trivial
    · rw [(List.mem_replicate.mp z).2]; trivial)⟩
  · cases i with
    | zero => cases he
    | succ i =>
      rw [List.getElem?_cons_succ, List.getElem?_replicate] at he
      split at he <;> cases he
  · cases i with
    | zero => cases he
    | succ i =>
      rw [List.getElem?_cons_succ, List.getElem?_replicate] at he
      split at he <;> cases he
  · cases i with
    | zero => cases he
    | succ i =>
      rw [List.getElem?_cons_succ, List.getElem?_replicate] at he
      split at he <;> cases he
  · cases i with
    | zero => cases he; exact ⟨a, rfl, h⟩
    | succ i =>
      rw [List.getElem?_cons_succ, List.getElem?_replicate] at he
      split at he <;> cases he
  · cases i with
    | zero => cases he
    | succ i =>
      rw [List.getElem?_cons_succ, List.getElem?_replicate] at he
      split at he <;> cases he
  · unfold L2.start
    simp
section
variable {P : Program} {w : World} {K : KF} {mg : Str → Option Value} {base : Heap} {x qual : Str} {st : Stmt} {f : Addr} {fd : FuncData} {N ps : List Str} {k : Nat} {R : List PyData → RS → Prop}
abbrev Fn (K : KF) (x qual : Str) (st : Stmt) (f : Addr) (fd : FuncData) : Prop := FunD K x qual (defArgs st) (defBody st) (defScope st) [] [] f fd
abbrev cx0 (P : Program) (w : World) (K : KF) (mg : Str → Option Value) (base : Heap) (N : List Str) (qual : Str) (st : Stmt) (f : Addr) (cdv : Value) (A : Around) (outer : List Env) (s : Shared) (H : Hp) (E : XK) : Cx := (cxOf CX0 P w K mg base N qual (defScope st) f cdv A outer s H E).nox
/-- a def keeps its promise -/
theorem def_ok (F : Fn K x qual st f fd) (S : FnScope N ps (defScope st))
    (hb : ∀ (cdv : Value) (A : Around) (outer : List Env) (s : Shared) (H : Hp) (E : XK) (ds : List PyData) (r : RS), Room k (A.deeper (PyProof.Rows.envOfC qual (defScope st) s.heap.objs.size f cdv)) → ds.length = ps.length → R ds r →
      PSs (cx0 P w K mg base N qual st f cdv A outer s H E) (defBody st) (tS K (env0 N.length ds) ⟨fun _ => r = .dat .none, (· = r), fun _ => False, fun _ => False⟩)) : FnOk P w K mg base CX0 (k + 1) f fd ps (spD K ps.length R) := by
  refine FunD.ok F S (fun vs H Q E ⟨F, ds, r, e, h, hl, _⟩ => by rw [h.length, hl]) (fun cdv A outer s H vs Q E hr ⟨F, ds, r, e, h, hl, hR, hQ⟩ => ?_)
  refine ⟨_, PSs.nox (hb cdv A outer s H E ds r hr hl hR), F, H, F, ok_start N e h, fun env' σ' F' H' hr' ok' => ?_, fun _ _ _ _ z => z.elim, fun _ _ _ _ z => z.elim, fun r' hr' => ?_⟩
  · subst hr'
    exact hQ .non F' H' ok'.g .non
  · subst hr'
    exact hQ
theorem def_scr {R : List Int → RS → Prop} (F : Fn K x qual st f fd) (S : FnScope N ps (defScope st)) (hps : ps.length = 1)
    (hb : ∀ (cdv : Value) (A : Around) (outer : List Env) (s : Shared) (H : Hp) (E : XK) (ns : List Int) (r : RS), Room k (A.deeper (PyProof.Rows.envOfC qual (defScope st) s.heap.objs.size f cdv)) → R ns r →
      PSs (cx0 P w K mg base N qual st f cdv A outer s H E) (defBody st) (tS K (.scr ns :: List.replicate (N.length - 1) .no) ⟨fun _ => r = .dat .none, (· = r), fun _ => False, fun _ => False⟩)) : FnOk P w K mg base CX0 (k + 1) f fd ps (spScr K R) := by
  refine FunD.ok F S (fun vs H Q E ⟨F, a, ns, r, e, _⟩ => by rw [e, hps]; rfl) (fun cdv A outer s H vs Q E hr ⟨F, a, ns, r, ev, e, h, hR, hQ⟩ => ?_)
  subst ev
  refine ⟨_, PSs.nox (hb cdv A outer s H E ns r hr hR), F, H, F, ok_scr N e h, fun env' σ' F' H' hr' ok' => ?_, fun _ _ _ _ z => z.elim, fun _ _ _ _ z => z.elim, fun r' hr' => ?_⟩
  · subst hr'
    exact hQ .non F' H' ok'.g .non
  · subst hr'
    exact hQ
end
/-- a def that stands at its name, and its promise -/
def Def (P : Program) (w : World) (K : KF) (mg : Str → Option Value) (base : Heap) (k : Nat) (x : Str) (sp : Sp) : Prop := ∃ f fd ps, FnOk P w K mg base CX0 k f fd ps sp ∧ mg x = some (.ref f) ∧ PySem.W.keepIn K (.ref f) = true ∧ Binds K fd ps []
theorem Def.up {P : Program} {w : World} {K : KF} {mg : Str → Option Value} {base : Heap} {j k : Nat} {x : Str} {sp : Sp} (h : Def P w K mg base j x sp) (l : j ≤ k) : Def P w K mg base k x sp := by
  obtain ⟨f, fd, ps, a, b⟩ := h
  exact ⟨f, fd, ps, a.mono l, b⟩
/-- where a def of the text stands -/
structure At (K : KF) (mg : Str → Option Value) (x : Str) (st : Stmt) (ps : List Str) : Prop where
  ex : ∃ f fd, Fn K x x st f fd ∧ mg x = some (.ref f) ∧ Binds K fd ps []
theorem At.def {P : Program} {w : World} {K : KF} {mg : Str → Option Value} {base : Heap} {k : Nat} {x : Str} {st : Stmt} {ps : List Str} {sp : Sp} (a : At K mg x st ps) (h : ∀ f fd, Fn K x x st f fd → FnOk P w K mg base CX0 k f fd ps sp) : Def P w K mg base k x sp := by
  obtain ⟨f, fd, F, hm, hb⟩ := a.ex
  exact ⟨f, fd, ps, h f fd F, hm, F.kp, hb⟩
section
variable {X : Cx} {e : Expr} {es : List Expr} {m : Bool} {env : List Sl} {d : PyData} {ds rs : List PyData} {pos p : Pos} {k n : Nat} {x : Str} {R : List PyData → RS → Prop}
theorem e_call (D : Def X.prog X.w X.K X.mg X.base k x (spD X.K n R)) (hr : Room k X.A) (ha : PA X (e :: es) (tA X.K true env ds)) (hn : ds.length = n) (hR : R ds (.dat d)) (hg : Gl X x := by rfl) (hdb : (x == ("__debug__" : Str)) = false := by decide)
    (he : starEach (e :: es) X.env = (false, eval e X.env) :: starEach es X.env := by rfl) (hpl : (backTo pos (starEach es X.env)).any (·.1) = false := by rfl) : PE X (.Call (.Name x p) (e :: es) [] pos) (tE X.K m env d) := by
  obtain ⟨f, fd, ps, Fo, hm, hk, hb⟩ := D
  exact pmono (pe_call (E := E0) Fo hr hg hm hk hb .nil pass0 ha hdb he hpl) fun σ H Q ⟨F0, H0, F, ok, q⟩ => ⟨F0, H0, F, ok, fun vs F1 H1 g1 x1 => ⟨F1, ds, .dat d, g1.fh, by rw [List.append_nil]; exact x1, hn, hR, fun v F2 H2 g2 x2 => q v F2 H2 (g1.trans g2) (seldn g2.fh x2)⟩⟩
theorem o_call (D : Def X.prog X.w X.K X.mg X.base k x (spD X.K n R)) (hr : Room k X.A) (ha : PA X (e :: es) (tA X.K true env ds)) (hn : ds.length = n) (hR : R ds (.own rs)) (hg : Gl X x := by rfl) (hdb : (x == ("__debug__" : Str)) = false := by decide)
    (he : starEach (e :: es) X.env = (false, eval e X.env) :: starEach es X.env := by rfl) (hpl : (backTo pos (starEach es X.env)).any (·.1) = false := by rfl) : PE X (.Call (.Name x p) (e :: es) [] pos) (tO X.K env rs) := by
  obtain ⟨f, fd, ps, Fo, hm, hk, hb⟩ := D
  exact pmono (pe_call (E := E0) Fo hr hg hm hk hb .nil pass0 ha hdb he hpl) fun σ H Q ⟨F0, H0, F, ok, q⟩ => ⟨F0, H0, F, ok, fun vs F1 H1 g1 x1 => ⟨F1, ds, .own rs, g1.fh, by rw [List.append_nil]; exact x1, hn, hR, fun p vs2 F2 H2 g2 h1 h2 h3 h4 => q p vs2 F2 H2 (g1.trans g2) (g1.hh.back h1) h2 h3 h4⟩⟩
/-- arguments that are read alone: the answer needs no heap, or is a new list of such -/
theorem e_callH (D : Def X.prog X.w X.K X.mg X.base k x (spD X.K n R)) (hr : Room k X.A) (ha : PA X (e :: es) (tA X.K false env ds)) (hn : ds.length = n) (hR : R ds (.dat d)) (hs : scalD d = true) (hg : Gl X x := by rfl) (hdb : (x == ("__debug__" : Str)) = false := by decide)
    (he : starEach (e :: es) X.env = (false, eval e X.env) :: starEach es X.env := by rfl) (hpl : (backTo pos (starEach es X.env)).any (·.1) = false := by rfl) : PE X (.Call (.Name x p) (e :: es) [] pos) (tE X.K m env d) := by
  obtain ⟨f, fd, ps, Fo, hm, hk, hb⟩ := D
  exact pmono (pe_call (E := E0) Fo hr hg hm hk hb .nil pass0 ha hdb he hpl) fun σ H Q ⟨F0, H0, F, ok, q⟩ => ⟨F0, H0, F, ok, fun vs F1 H1 g1 x1 => ⟨H1, ds, .dat d, Ex.refl _, by rw [List.append_nil]; exact x1, hn, hR, fun v F2 H2 g2 x2 => q v F1 H2 (g1.trans (Grow.junk g1.fh g2.hh)) (x2.scal hs)⟩⟩
theorem o_callH (D : Def X.prog X.w X.K X.mg X.base k x (spD X.K n R)) (hr : Room k X.A) (ha : PA X (e :: es) (tA X.K false env ds)) (hn : ds.length = n) (hR : R ds (.own rs)) (hs : rs.all scalD = true) (hg : Gl X x := by rfl) (hdb : (x == ("__debug__" : Str)) = false := by decide)
    (he : starEach (e :: es) X.env = (false, eval e X.env) :: starEach es X.env := by rfl) (hpl : (backTo pos (starEach es X.env)).any (·.1) = false := by rfl) : PE X (.Call (.Name x p) (e :: es) [] pos) (tO X.K env rs) := by
  obtain ⟨f, fd, ps, Fo, hm, hk, hb⟩ := D
  exact pmono (pe_call (E := E0) Fo hr hg hm hk hb .nil pass0 ha hdb he hpl) fun σ H Q ⟨F0, H0, F, ok, q⟩ => ⟨F0, H0, F, ok, fun vs F1 H1 g1 x1 => ⟨H1, ds, .own rs, Ex.refl _, by rw [List.append_nil]; exact x1, hn, hR, fun p vs2 F2 H2 g2 h1 h2 h3 h4 =>
    q p vs2 F1 H2 (g1.trans (Grow.junk g1.fh g2.hh)) (g1.hh.back h1) (g1.fh.back h1) h3 (h4.scal hs)⟩⟩
/-- f(script) -/
theorem o_callScr {R : List Int → RS → Prop} {y : Str} {ns : List Int} (i : Nat) (D : Def X.prog X.w X.K X.mg X.base k x (spScr X.K R)) (hr : Room k X.A) (hN : X.N[i]? = some y) (hv : Vis X.env.scope y) (ho : env[i]? = some (.scr ns)) (hR : R ns (.own rs)) (hg : Gl X x := by rfl) (hdb : (x == ("__debug__" : Str)) = false := by decide)
    (hd : (y == ("__debug__" : Str)) = false := by decide) (hcd : (y == ("__classdict__" : Str)) = false := by decide) : PE X (.Call (.Name x p) [.Name y pos] [] pos) (tO X.K env rs) := by
  obtain ⟨f, fd, ps, Fo, hm, hk, hb⟩ := D
  exact pmono (pe_call (E := E0) Fo hr hg hm hk hb .nil pass0 (pa_cons (pe_var hN hv hd hcd) pa_nil) hdb) fun σ H Q ⟨F0, H0, F, ok, q⟩ => by
    obtain ⟨a, h1, h2⟩ := ok.scr i ns ho
    exact ⟨.ref a, h1, F, a, ns, .own rs, rfl, ok.g.fh, h2, hR, fun p vs2 F2 H2 g2 h1 h2 h3 h4 => q p vs2 F2 H2 g2 h1 h2 h3 h4⟩
end
/-! ### the law -/
def spLaw (K : KF) : Sp := spScr K fun ns r => ns.length ≤ 63 ∧ r = .dat (.bool true)
theorem law_of {K : KF} {H : Hp} {a : Addr} {ns : List Int} (hl : ns.length ≤ 63) (h : SqL K H a (ns.map V.int)) : spLaw K [.ref a] H (fun v _ => v = .bl true) fun _ _ _ => False :=
  ⟨H, a, ns, .dat (.bool true), rfl, Ex.refl _, h, ⟨hl, rfl⟩, fun v F' H' g x => by cases x; rfl⟩
end D3
namespace D3
open PySem PySem.Spec L2

/-! ### in short -/
/-- the built-ins stand -/
structure Bt (mg : Str → Option Value) : Prop where
  len : mg "len" = none
  range : mg "range" = none
  list : mg "list" = none
  int : mg "int" = none
  abs : mg "abs" = none
  max : mg "max" = none
  min : mg "min" = none
  all : mg "all" = none
  any : mg "any" = none
  isinstance : mg "isinstance" = none
  bool : mg "bool" = none
  repr : mg "repr" = none
  sum : mg "sum" = none
  sorted : mg "sorted" = none
  set : mg "set" = none
  str : mg "str" = none
  tuple : mg "tuple" = none
  enumerate : mg "enumerate" = none
  zip : mg "zip" = none
  reversed : mg "reversed" = none
section
variable {X : Cx} {K : KF} {e a b c : Expr} {es : List Expr} {m m1 m2 m3 : Bool} {env : List Sl} {d d1 d2 : PyData} {ds ds1 ds2 : List PyData} {pos p p1 p2 p3 p4 : Pos} {x : Str} {i j : Int} {E : DE} {st : Stmt} {rest : List Stmt}
abbrev dI (xs : List Int) : List PyData := xs.map .int
theorem dv (i : Nat) (he : env[i]? = some (.dat d)) (hN : X.N[i]? = some x := by rfl) (hv : Vis X.env.scope x := by first | exact .inl rfl | exact .inr (.inl rfl) | exact .inr (.inr rfl))
    (hd : (x == ("__debug__" : Str)) = false := by decide) (hcd : (x == ("__classdict__" : Str)) = false := by decide) : PE X (.Name x pos) (tE K m env d) := pe_dat i hN hv he hd hcd
theorem ov (i : Nat) (he : env[i]? = some (.own ds)) (hN : X.N[i]? = some x := by rfl) (hv : Vis X.env.scope x := by first | exact .inl rfl | exact .inr (.inl rfl) | exact .inr (.inr rfl))
    (hd : (x == ("__debug__" : Str)) = false := by decide) (hcd : (x == ("__classdict__" : Str)) = false := by decide) : PE X (.Name x pos) (tL K env ds) := pl_own i hN hv he hd hcd

/-! ### typed items -/
theorem atI_map {α : Type} {enc : α → PyData} {zs : List α} {z : α} (h : atI zs i = some z) : atI (zs.map enc) i = some (enc z) := by
  unfold atI at h ⊢
  rw [List.length_map]
  cases hx : ixN zs.length i with
  | none => rw [hx] at h; cases h
  | some q =>
    rw [hx] at h
    show (zs.map enc)[q]? = some (enc z)
    rw [List.getElem?_map, show zs[q]? = some z from h]; rfl
theorem atI_pos {α : Type} {zs : List α} {d : α} (h0 : 0 ≤ i) (h1 : i < zs.length) : atI zs i = some (zs.getD i.toNat d) := by
  obtain ⟨k, rfl⟩ := Int.eq_ofNat_of_zero_le h0
  have hk : k < zs.length := by omega
  have : zs[k]? = some zs[k] := List.getElem?_eq_getElem hk
  rw [show ((k : Int)).toNat = k from rfl, List.getD_eq_getElem?_getD, this]
  exact atI_nat this
theorem atI_neg1 {α : Type} {zs : List α} {d : α} (h1 : zs ≠ []) : atI zs (-1) = some (zs.getLastD d) := by
  have hs : zs = zs.dropLast ++ [zs.getLast h1] := (List.dropLast_concat_getLast h1).symm
  have hl : zs.getLastD d = zs.getLast h1 := by
    cases zs with
    | nil => exact absurd rfl h1
    | cons y ys => rfl
  rw [hl]
  conv => lhs; rw [hs]
  exact atI_last _ _
theorem e_ixI {xs : List Int} (h : PE X a (tL X.K env (xs.map .int))) (hb : PE X b (tE X.K true env (.int i))) (hi : 0 ≤ i ∧ i < xs.length) (hs : PlainIx b := by exact fun _ _ => rfl) : PE X (.Subscript a b pos) (tE X.K m env (.int (xs.getD i.toNat 0))) :=
  e_ix h hb (atI_map (enc := .int) (atI_pos hi.1 hi.2)) hs
theorem e_ixG {α : Type} {enc : α → PyData} {zs : List α} (z0 : α) (h : PE X a (tL X.K env (zs.map enc))) (hb : PE X b (tE X.K true env (.int i))) (hi : 0 ≤ i ∧ i < zs.length) (hs : PlainIx b := by exact fun _ _ => rfl) : PE X (.Subscript a b pos) (tE X.K m env (enc (zs.getD i.toNat z0))) :=
  e_ix h hb (atI_map (atI_pos hi.1 hi.2)) hs
theorem e_ixZ {xs : List Int} (h : PE X a (tL X.K env (xs.map .int))) (hb : PE X b (tE X.K true env (.int (-1)))) (hi : xs ≠ []) (hs : PlainIx b := by exact fun _ _ => rfl) : PE X (.Subscript a b pos) (tE X.K m env (.int (xs.getLastD 0))) :=
  e_ix h hb (atI_map (enc := .int) (atI_neg1 hi)) hs
theorem e_mul (ha : PE X a (tE K true env (.int i))) (hb : PE X b (tE K true env (.int j))) (hc : CMulW i j) : PE X (.BinOp a .Mult b pos) (tE K m env (.int (i * j))) := e_I (g := fun i j => i * j) op_mulW hc ha hb
theorem e_mulS (ha : PE X a (tE K true env (.int i))) (hb : PE X b (tE K true env (.int j))) (hc : CMul i j) : PE X (.BinOp a .Mult b pos) (tE K m env (.int (i * j))) := e_I (g := fun i j => i * j) op_mul hc ha hb
theorem e_fdivW (ha : PE X a (tE K true env (.int i))) (hb : PE X b (tE K true env (.int j))) (hc : CDivW i j) : PE X (.BinOp a .FloorDiv b pos) (tE K m env (.int (i / j))) := e_I (g := fun i j => i / j) op_fdivW hc ha hb
/-- [0] * n -/
theorem repD_one {α : Type} (z : α) (k : Int) : repD [z] k = List.replicate k.toNat z := by
  unfold repD
  induction k.toNat with
  | zero => rfl
  | succ n ih => rw [List.replicate_succ, List.flatten_cons, ih, List.replicate_succ]; rfl
theorem map_repD {α β : Type} (f : α → β) (zs : List α) (k : Int) : repD (zs.map f) k = (repD zs k).map f := by
  unfold repD
  induction k.toNat with
  | zero => rfl
  | succ n ih => rw [List.replicate_succ, List.flatten_cons, ih, List.replicate_succ, List.flatten_cons, List.map_append]
theorem map_cutD {α β : Type} (f : α → β) (zs : List α) (lo hi : Option Int) : cutD (zs.map f) lo hi = (cutD zs lo hi).map f := by
  unfold cutD
  rw [List.length_map, List.map_take, List.map_drop]
theorem cut_to {α : Type} {zs : List α} {k : Int} (h : 0 ≤ k) : cutD zs none (some k) = zs.take k.toNat := by
  obtain ⟨n, rfl⟩ := Int.eq_ofNat_of_zero_le h
  unfold cutD
  rw [HT.sIx_none, HT.sIx_nat, List.drop_zero, Nat.sub_zero, show ((n : Int)).toNat = n from rfl]
  rw [Nat.min_def]; split
  · rfl
  · rw [List.take_length, List.take_of_length_le (by omega)]
theorem cut_from {α : Type} {zs : List α} {k : Int} (h : 0 ≤ k) : cutD zs (some k) none = zs.drop k.toNat := by
  obtain ⟨n, rfl⟩ := Int.eq_ofNat_of_zero_le h
  unfold cutD
  rw [HT.sIx_none, HT.sIx_nat, show ((n : Int)).toNat = n from rfl, List.take_of_length_le (by rw [List.length_drop]; omega)]
  rw [Nat.min_def]; split
  · rfl
  · rw [List.drop_length, List.drop_eq_nil_of_le (by omega)]
theorem cut_m1 {α : Type} {zs : List α} : cutD zs none (some (-1)) = zs.dropLast := by
  have h : HT.sIx zs.length zs.length (some (-1)) = zs.length - 1 := by
    show (if (-1 : Int) < 0 then ((-1 : Int) + (zs.length : Int)).toNat else min (-1 : Int).toNat zs.length) = zs.length - 1
    rw [if_pos (by decide)]
    omega
  unfold cutD
  rw [HT.sIx_none, List.drop_zero, Nat.sub_zero, List.dropLast_eq_take, h]
/-- zs[:n] of data -/
theorem o_to {α : Type} {enc : α → PyData} {zs : List α} (h : PE X e (tL X.K env (zs.map enc))) (hb : PE X b (tE X.K true env (.int i))) (hi : 0 ≤ i) : PE X (.Subscript e (.Slice none (some b) none p2) pos) (tO X.K env ((zs.take i.toNat).map enc)) :=
  o_eq (o_sl h o_no (o_so hb)) (by rw [map_cutD, cut_to hi])
theorem o_from {α : Type} {enc : α → PyData} {zs : List α} (h : PE X e (tL X.K env (zs.map enc))) (hb : PE X b (tE X.K true env (.int i))) (hi : 0 ≤ i) : PE X (.Subscript e (.Slice (some b) none none p2) pos) (tO X.K env ((zs.drop i.toNat).map enc)) :=
  o_eq (o_sl h (o_so hb) o_no) (by rw [map_cutD, cut_from hi])
theorem o_catG {α : Type} {enc : α → PyData} {xs ys : List α} (ha : PE X a (tL X.K env (xs.map enc))) (hb : PE X b (tL X.K env (ys.map enc))) (hz : xs.length + ys.length ≤ sizeLine) : PE X (.BinOp a .Add b pos) (tO X.K env ((xs ++ ys).map enc)) :=
  o_eq (o_cat ha hb (by rw [List.length_map, List.length_map]; exact hz)) (by rw [List.map_append])
theorem o_repG {α : Type} {enc : α → PyData} {xs : List α} (ha : PE X a (tL X.K env (xs.map enc))) (hb : PE X b (tE X.K true env (.int i))) (h1 : -(2 ^ 63) ≤ i ∧ i < 2 ^ 63) (hz : xs.length * i.toNat ≤ sizeLine) : PE X (.BinOp a .Mult b pos) (tO X.K env ((repD xs i).map enc)) :=
  o_eq (o_rep ha hb h1 (by rw [List.length_map]; exact hz)) (map_repD enc xs i)
/-- [n] * k -/
theorem o_rep1 {n : Int} (ha : PE X a (tE X.K true env (.int n))) (hb : PE X b (tE X.K true env (.int i))) (h1 : i < 2 ^ 63) (h2 : -(2 ^ 63) ≤ i) (hz : i.toNat ≤ sizeLine) (na : NS X a := by exact fun _ => rfl) : PE X (.BinOp (.List [a] p1) .Mult b pos) (tO X.K env ((List.replicate i.toNat n).map .int)) :=
  o_eq (o_rep (l_o (o_list (a_cons ha a_nil (na [])) (by show 1 ≤ sizeLine; rw [sizeLine_eq]; omega))) hb ⟨h2, h1⟩ (by simpa using hz)) (by rw [repD_one, List.map_replicate])
theorem o_nil : PE X (.List [] pos) (tO X.K env []) := o_list a_nil (Nat.zero_le _)
theorem o_listI {ns : List Int} (h : PA X es (tA X.K true env (ns.map .int))) (hl : ns.length ≤ 1000) : PE X (.List es pos) (tO X.K env (ns.map .int)) := o_list h (by rw [List.length_map, sizeLine_eq]; omega)
theorem a_consI {n : Int} {ns : List Int} (ha : PE X a (tE K m env (.int n))) (hs : PA X es (tA K m env (ns.map .int))) (hst : starEach (a :: es) X.env = (false, eval a X.env) :: starEach es X.env := by rfl) : PA X (a :: es) (tA K m env ((n :: ns).map .int)) := a_cons ha hs hst
theorem a_nilI : PA X [] (tA K m env (([] : List Int).map .int)) := a_nil
theorem a_consG {α : Type} {enc : α → PyData} {z : α} {zs : List α} (ha : PE X a (tE K m env (enc z))) (hs : PA X es (tA K m env (zs.map enc))) (hst : starEach (a :: es) X.env = (false, eval a X.env) :: starEach es X.env := by rfl) : PA X (a :: es) (tA K m env ((z :: zs).map enc)) := a_cons ha hs hst
theorem a_nilG {α : Type} {enc : α → PyData} : PA X [] (tA K m env (([] : List α).map enc)) := a_nil
/-- xs[::-1] -/
theorem o_rev {k : Nat} (h : PE X e (tL X.K env ds)) : PE X (.Subscript e (.Slice none none (some (.UnaryOp .USub (.Constant (.int 1) k p1) p2)) p3) pos) (tO X.K env ds.reverse) :=
  pmono (pe_revL h) fun σ H Q ⟨F0, H0, F, ok, q⟩ => ⟨F0, H0, F, ok, fun p vs F1 H1 g1 x y => ⟨p, vs, rfl, sqOf x, fun r hr => q r _ F1 _ (g1.trans (Grow.own g1.fh hr)) (g1.hh.back hr) (g1.fh.back hr) upd_same (by
    have rev : ∀ {vs : List V} {ds : List PyData}, DqAll X.K F1 vs ds → DqAll X.K F1 vs.reverse ds.reverse := by
      intro vs ds
      induction ds generalizing vs with
      | nil => intro h; cases h; exact .nil
      | cons d ds ih =>
        intro h
        cases h with
        | cons h1 h2 =>
          rw [List.reverse_cons, List.reverse_cons]
          exact (ih h2).append (.cons h1 .nil)
    exact rev y)⟩⟩
theorem o_revG {α : Type} {enc : α → PyData} {zs : List α} {k : Nat} (h : PE X e (tL X.K env (zs.map enc))) : PE X (.Subscript e (.Slice none none (some (.UnaryOp .USub (.Constant (.int 1) k p1) p2)) p3) pos) (tO X.K env (zs.reverse.map enc)) :=
  o_eq (o_rev h) (by rw [List.map_reverse])
theorem e_isB {k l : Bool} (ha : PE X a (tE K true env (.bool k))) (hb : PE X b (tE K true env (.bool l))) : PE X (.Compare a [.Is] [b] pos) (tE K m env (.bool (decide (k = l)))) :=
  e_cmp op_isBl ha hb (nomark _) (fun x y H Q hx hy q => by cases hx; cases hy; exact ⟨k, l, rfl, rfl, q⟩) fun _ => .bl _
theorem e_isNone (ha : PE X a (tE K true env d)) {k : Nat} : PE X (.Compare a [.Is] [.Constant .none k p1] pos) (tE K m env (.bool (match d with | .none => true | _ => false))) :=
  e_cmp op_isN ha (e_non (m := true) (env := env)) (nomark _) (fun x y H Q hx hy q => by
    cases hy
    refine ⟨rfl, ?_⟩
    cases hx <;> exact q) fun _ => .bl _
theorem e_notNone (ha : PE X a (tE K true env d)) {k : Nat} : PE X (.Compare a [.IsNot] [.Constant .none k p1] pos) (tE K m env (.bool (match d with | .none => false | _ => true))) :=
  e_cmp op_notN ha (e_non (m := true) (env := env)) (nomark _) (fun x y H Q hx hy q => by
    cases hy
    refine ⟨rfl, ?_⟩
    cases hx <;> exact q) fun _ => .bl _

/-! ### isinstance -/
def tyD : PyData → String
  | .none => "NoneType" | .bool _ => "bool" | .int _ => "int" | .str _ => "str" | .list _ => "list" | .tuple _ => "tuple" | .dict _ => "dict"
theorem tyx {H : Hp} {v : V} (h : Dq K H v d) : TyX K H v (.type (tyD d)) := by
  cases h with
  | non => exact .base .non
  | bl b => exact .base (.bl b)
  | int i => exact .base (.int i)
  | str x => exact .base (.str x)
  | lst h1 _ => exact .base (.lst h1)
  | tup h1 _ =>
    rcases h1 with (h1 | ⟨o, h1⟩) | ⟨o, its, n, h1, h2, _⟩
    · exact .base (.tup h1)
    · exact .fTuple h1
    · exact .kTuple h1 h2
theorem e_isi {T : String} {r : Bool} (hm : X.mg "isinstance" = none) (ha : PE X a (tE X.K m1 env d)) (hb : PE X b (tC (.ty T))) (hr : kitB (tyD d) T = some r) (hg : Gl X "isinstance" := by rfl) (na : NS X a := by exact fun _ => rfl) (nb : NS X b := by exact fun _ => rfl) :
    PE X (.Call (.Name "isinstance" p1) [a, b] [] pos) (tE X.K m env (.bool r)) :=
  pmono (pe_callB call_isi hg hm PyProof.Rows.boot_isinstance (pa_cons ha (pa_cons hb pa_nil (nb [])) (na [b])) (he := na [b]) (hpl := by rw [nb []]; rfl)) fun σ H Q ⟨F0, H0, F, ok, k⟩ => ⟨F0, H0, F, ok, fun v F1 H1 g1 x =>
    ⟨v, .ty T, _, _, r, rfl, .ty T, tyx (seldq g1.fh x), kit_ty hr, k _ F1 H1 g1 (.bl _)⟩⟩
/-- a built-in class by its name -/
theorem ty_int (hm : X.mg "int" = none) (hg : Gl X "int" := by rfl) : PE X (.Name "int" pos) (tC (.ty "int")) := pe_bltn hg hm PyProof.Rows.boot_int rfl
theorem ty_bool (hm : X.mg "bool" = none) (hg : Gl X "bool" := by rfl) : PE X (.Name "bool" pos) (tC (.ty "bool")) := pe_bltn hg hm PyProof.Rows.boot_bool rfl
theorem ty_list (hm : X.mg "list" = none) (hg : Gl X "list" := by rfl) : PE X (.Name "list" pos) (tC (.ty "list")) := pe_bltn hg hm PyProof.Rows.boot_list rfl
theorem ty_tuple (hm : X.mg "tuple" = none) (hg : Gl X "tuple" := by rfl) : PE X (.Name "tuple" pos) (tC (.ty "tuple")) := pe_bltn hg hm PyProof.Rows.boot_tuple rfl
theorem ty_str (hm : X.mg "str" = none) (hg : Gl X "str" := by rfl) : PE X (.Name "str" pos) (tC (.ty "str")) := pe_bltn hg hm PyProof.Rows.boot_str rfl

/-! ### repr of a flat thing -/
theorem call_repr_bool : CallR X (.builtin "repr") (fun xs H Q => ∃ b, xs = [.bl b] ∧ Q (.str (if b then "True" else "False")) H) := by
  intro pins s σ H xs us Q I r h
  obtain ⟨i, rfl, q⟩ := h
  obtain ⟨u, rfl, t⟩ := vals1 r
  cases (show u = Value.bool i from t)
  exact PySem.P.repr_of_bool ⟨.str _, H, I.tok _, ⟨_, rfl⟩, q⟩
theorem e_reprB {k : Bool} (hm : X.mg "repr" = none) (h : PE X e (tE X.K true env (.bool k))) (hg : Gl X "repr" := by rfl) (ns : NS X e := by exact fun _ => rfl) : PE X (.Call (.Name "repr" p1) [e] [] pos) (tE X.K m env (.str (if k then "True" else "False"))) :=
  pmono (pe_callB call_repr_bool hg hm PyProof.Rows.boot_repr (pa_cons h pa_nil (ns [])) (he := ns [])) fun σ H Q ⟨F0, H0, F, ok, q⟩ => ⟨F0, H0, F, ok, fun v F1 H1 g1 x => by
    cases x
    exact ⟨k, rfl, q _ F1 H1 g1 (.str _)⟩⟩

/-! ### statements, again -/
theorem s_fork (h1 : PS X st (tS K env (E.to fun e => PSs X rest (tS K e E)))) : PSs X (st :: rest) (tS K env E) := s_cons h1 fun e q => q
/-- for k in range(n) -/
theorem s_forR {j : Nat} {n : Int} {body : List Stmt} {y : Str} (T : Nat → List Sl) (hp : PassesOwn (model X.prog X.w) X.A X.env X.xe) (hm : X.mg "range" = none) (ha : PE X a (tE X.K true env (.int n))) (hj : -(2 ^ 62) ≤ n ∧ n < 2 ^ 62)
    (hN : X.N.Nodup) (hi : X.N[j]? = some y) (h0 : LeE env (T 0))
    (hb : ∀ i : Nat, (i : Int) < n → PSs X body (tS X.K ((T i).set j (.dat (.int (i : Int)))) ⟨fun e => LeE e (T (i + 1)), E.rt, E.nx, fun e => LeE e (T (i + 1))⟩)) (hd : ∀ e, LeE e (T n.toNat) → E.nx e)
    (hc : X.calm = true := by rfl) (hx : Loc X.env.scope y := by first | exact .inl rfl | exact .inr rfl) (hf : X.fn y = true ∨ X.env.scope.names.lookup y = some .local := by first | exact .inl rfl | exact .inr rfl)
    (hs : ∀ x, foldedSetIterable (.Call (.Name "range" p) [a] [] p1) X.env x = pure x := by intro _; rfl) (hg : Gl X "range" := by rfl) (na : NS X a := by exact fun _ => rfl) : PS X (.For (.Name y p3) (.Call (.Name "range" p) [a] [] p1) body [] pos) (tS X.K env E) := by
  have e0 : ∀ i : Nat, (0 : Int) + (i : Int) = (i : Int) := fun i => Int.zero_add _
  refine s_for (zs := List.range n.toNat) (enc := fun (i : Nat) => PyData.int (0 + (i : Int))) (f := fun (i : Nat) e => e.set j (.dat (.int (0 + (i : Int))))) (fun i e => LeE e (T i)) hp (i_rng1 hm ha hj hg na) (pg_name hN hi hx hf) (fun z _ => asg_nameA _) h0 (fun i z env' hz hI => ?_) (by rw [List.length_range]; exact hd) hc hs
  have hi' : i < n.toNat := by simpa using (List.getElem?_eq_some_iff.mp hz).1
  have hz' : z = i := by
    rw [List.getElem?_range hi'] at hz
    exact (Option.some.inj hz).symm
  subst hz'
  have hset : ∀ (as bs : List Sl) (j : Nat) (s : Sl), LeE as bs → LeE (as.set j s) (bs.set j s) := by
    intro as
    induction as with
    | nil => intro bs j s h; cases bs with
      | nil => exact trivial
      | cons => exact h.elim
    | cons a as ih => intro bs j s h; cases bs with
      | nil => exact h.elim
      | cons b bs => cases j with
        | zero => exact ⟨.inr rfl, h.2⟩
        | succ j => exact ⟨h.1, ih bs j s h.2⟩
  show PSs X body (tS X.K (env'.set j (.dat (.int (0 + (z : Int))))) _)
  rw [e0]
  exact s_le (hset _ _ j _ hI) (hb z (by omega))
theorem LeE.set_ : ∀ {as bs : List Sl} {j : Nat} {s : Sl}, LeE as bs → LeE (as.set j s) (bs.set j s)
  | [], [], _, _, _ => trivial
  | a :: as, b :: bs, 0, s, h => ⟨.inr rfl, h.2⟩
  | a :: as, b :: bs, j + 1, s, h => ⟨h.1, LeE.set_ h.2⟩
  | [], _ :: _, _, _, h => h.elim
  | _ :: _, [], _, _, h => h.elim
/-- for x in xs -/
theorem s_forL {α : Type} {enc : α → PyData} {zs : List α} {j : Nat} {l : Expr} {body : List Stmt} {y : Str} (T : Nat → List Sl) (hp : PassesOwn (model X.prog X.w) X.A X.env X.xe) (ha : PE X l (tE X.K true env (.list (zs.map enc))))
    (hN : X.N.Nodup) (hi : X.N[j]? = some y) (h0 : LeE env (T 0))
    (hb : ∀ (i : Nat) z, zs[i]? = some z → PSs X body (tS X.K ((T i).set j (.dat (enc z))) ⟨fun e => LeE e (T (i + 1)), E.rt, E.nx, fun e => LeE e (T (i + 1))⟩)) (hd : ∀ e, LeE e (T zs.length) → E.nx e)
    (hc : X.calm = true := by rfl) (hx : Loc X.env.scope y := by first | exact .inl rfl | exact .inr rfl) (hf : X.fn y = true ∨ X.env.scope.names.lookup y = some .local := by first | exact .inl rfl | exact .inr rfl)
    (hs : ∀ x, foldedSetIterable l X.env x = pure x := by intro _; rfl) : PS X (.For (.Name y p3) l body [] pos) (tS X.K env E) :=
  s_for (zs := zs) (enc := enc) (f := fun z e => e.set j (.dat (enc z))) (fun i e => LeE e (T i)) hp (i_list ha) (pg_name hN hi hx hf) (fun z _ => asg_nameA _) h0 (fun i z env' hz hI => s_le (LeE.set_ hI) (hb i z hz)) hd hc hs
end
end D3
namespace D3
open PySem PySem.Spec L2
section
variable {X : Cx} {K : KF} {e a b c : Expr} {es : List Expr} {m m1 m2 m3 : Bool} {env : List Sl} {d d1 d2 : PyData} {ds ds1 ds2 : List PyData} {pos p p1 p2 p3 p4 : Pos} {x : Str} {i j : Int} {E : DE} {st : Stmt} {rest : List Stmt}
abbrev eL {α : Type} (f : α → PyData) (z : List α) : PyData := .list (z.map f)
abbrev eT2 {α β : Type} (f : α → PyData) (g : β → PyData) (z : α × β) : PyData := .tuple [f z.1, g z.2]
abbrev eT3 {α β γ : Type} (f : α → PyData) (g : β → PyData) (h : γ → PyData) (z : α × β × γ) : PyData := .tuple [f z.1, g z.2.1, h z.2.2]
def setAll (env : List Sl) : List (Nat × Sl) → List Sl
  | [] => env
  | p :: ps => setAll (env.set p.1 p.2) ps
theorem e_ifG {α : Type} {enc : α → PyData} {x y : α} {k : Bool} (hc : PT X c (tT K env k)) (ha : k = true → PE X a (tE K m env (enc x))) (hb : k = false → PE X b (tE K m env (enc y))) : PE X (.IfExp c a b pos) (tE K m env (enc (if k then x else y))) :=
  e_if hc (fun h => by subst h; exact ha rfl) (fun h => by subst h; exact hb rfl)
theorem i_rngN {tg : Expr} (hm : X.mg "range" = none) (ha : PE X a (tE X.K true env (.int j))) (hj : -(2 ^ 62) ≤ j ∧ j < 2 ^ 62) (hg : Gl X "range" := by rfl) (na : NS X a := by exact fun _ => rfl) : PI X tg (.Call (.Name "range" p1) [a] [] pos) (tI X.K env ((List.range j.toNat).map fun (i : Nat) => .int (i : Int))) := by
  have h := i_rng1 (tg := tg) (p1 := p1) (pos := pos) hm ha hj hg na
  have e : rangeD 0 j.toNat = (List.range j.toNat).map fun (i : Nat) => PyData.int (i : Int) := by
    unfold rangeD
    congr 1
    funext i
    rw [Int.zero_add]
  rwa [e] at h
theorem i_rngN2 {tg : Expr} (hm : X.mg "range" = none) (ha : PE X a (tE X.K true env (.int i))) (hb : PE X b (tE X.K true env (.int j))) (hj : -(2 ^ 62) ≤ i ∧ i < 2 ^ 62 ∧ -(2 ^ 62) ≤ j ∧ j < 2 ^ 62) (hg : Gl X "range" := by rfl) (na : NS X a := by exact fun _ => rfl) (nb : NS X b := by exact fun _ => rfl) :
    PI X tg (.Call (.Name "range" p1) [a, b] [] pos) (tI X.K env ((List.range (j - i).toNat).map fun (k : Nat) => .int (i + (k : Int)))) := i_rng2 hm ha hb hj hg na nb
/-- comprehensions, typed -/
theorem o_lcT {α β : Type} {zs : List α} {enc : α → PyData} {encB : β → PyData} {g : TG} {ix : List Nat} {f : α → List Sl → List Sl} {tb : α → Bool} {y : α → β} {own : List (Str × Nat)} {tg iter elt : Expr} {ifs : List Expr} {scope : Scope}
    (hN : X.N.Nodup) (hi : PI X tg iter (tI X.K env (zs.map enc))) (hl : zs.length ≤ 1000000) (okb : blkC X.N X.env.scope scope own = true) (hg : Blk X scope fun X' => PG X' tg g)
    (hf : ∀ z ∈ zs, Asg X.K g (enc z) (f z) ix) (hix : ∀ i ∈ ix, i ∈ own.map (·.2))
    (ht : ∀ z ∈ zs, Blk X scope fun X' => PTs X' ifs (tT X.K (f z (wipeE env (own.map (·.2)))) (tb z)))
    (he : ∀ z ∈ zs, tb z = true → Blk X scope fun X' => PE X' elt (tE X.K true (f z (wipeE env (own.map (·.2)))) (encB (y z))))
    (hc : X.calm = true := by rfl) (hs : ∀ x, foldedSetIterable iter X.env x = pure x := by intro _; rfl) : PE X (.ListComp elt [⟨tg, iter, ifs, 0⟩] scope pos) (tO X.K env (((zs.filter tb).map y).map encB)) := by
  have h := o_lc (pos := pos) (y := fun z => encB (y z)) hN hi hl okb hg hf hix ht he hc hs
  rwa [show (fun z => encB (y z)) = encB ∘ y from rfl, ← List.map_map] at h
theorem o_lcTA {α β : Type} {zs : List α} {enc : α → PyData} {encB : β → PyData} {g : TG} {ix : List Nat} {f : α → List Sl → List Sl} {y : α → β} {own : List (Str × Nat)} {tg iter elt : Expr} {scope : Scope}
    (hN : X.N.Nodup) (hi : PI X tg iter (tI X.K env (zs.map enc))) (hl : zs.length ≤ 1000000) (okb : blkC X.N X.env.scope scope own = true) (hg : Blk X scope fun X' => PG X' tg g)
    (hf : ∀ z ∈ zs, Asg X.K g (enc z) (f z) ix) (hix : ∀ i ∈ ix, i ∈ own.map (·.2))
    (he : ∀ z ∈ zs, Blk X scope fun X' => PE X' elt (tE X.K true (f z (wipeE env (own.map (·.2)))) (encB (y z))))
    (hc : X.calm = true := by rfl) (hs : ∀ x, foldedSetIterable iter X.env x = pure x := by intro _; rfl) : PE X (.ListComp elt [⟨tg, iter, [], 0⟩] scope pos) (tO X.K env ((zs.map y).map encB)) := by
  have h := o_lcA (pos := pos) (y := fun z => encB (y z)) hN hi hl okb hg hf hix he hc hs
  rwa [show (fun z => encB (y z)) = encB ∘ y from rfl, ← List.map_map] at h
theorem s_setLcT {α β : Type} {zs : List α} {enc : α → PyData} {encB : β → PyData} {g : TG} {ix : List Nat} {f : α → List Sl → List Sl} {tb : α → Bool} {y : α → β} {own : List (Str × Nat)} {tg iter elt : Expr} {ifs : List Expr} {scope : Scope} {x : Str} {py spos : Pos} (i : Nat)
    (hN : X.N.Nodup) (hxi : X.N[i]? = some x) (hi : PI X tg iter (tI X.K env (zs.map enc))) (hl : zs.length ≤ 1000000) (okb : blkC X.N X.env.scope scope own = true) (hg : Blk X scope fun X' => PG X' tg g)
    (hf : ∀ z ∈ zs, Asg X.K g (enc z) (f z) ix) (hix : ∀ i ∈ ix, i ∈ own.map (·.2))
    (ht : ∀ z ∈ zs, Blk X scope fun X' => PTs X' ifs (tT X.K (f z (wipeE env (own.map (·.2)))) (tb z)))
    (he : ∀ z ∈ zs, tb z = true → Blk X scope fun X' => PE X' elt (tE X.K true (f z (wipeE env (own.map (·.2)))) (encB (y z))))
    (h : E.nx (env.set i (.own (((zs.filter tb).map y).map encB)))) (hsw : swapsWith (.ListComp elt [⟨tg, iter, ifs, 0⟩] scope pos) (some (.Name x py)) spos.line X.env = pure true := by exact sw_true rfl rfl rfl (by decide +kernel)) (hyl : X.env.scope.names.lookup x = some .local := by rfl)
    (hc : X.calm = true := by rfl) (hs : ∀ x, foldedSetIterable iter X.env x = pure x := by intro _; rfl) : PS X (.Assign [.Name x py] (.ListComp elt [⟨tg, iter, ifs, 0⟩] scope pos) spos) (tS X.K env E) :=
  s_setLc (y := fun z => encB (y z)) i hN hxi hi hl okb hg hf hix ht he (by rw [show (fun z => encB (y z)) = encB ∘ y from rfl, ← List.map_map]; exact h) hsw hyl hc hs
theorem s_setLcTA {α β : Type} {zs : List α} {enc : α → PyData} {encB : β → PyData} {g : TG} {ix : List Nat} {f : α → List Sl → List Sl} {y : α → β} {own : List (Str × Nat)} {tg iter elt : Expr} {scope : Scope} {x : Str} {py spos : Pos} (i : Nat)
    (hN : X.N.Nodup) (hxi : X.N[i]? = some x) (hi : PI X tg iter (tI X.K env (zs.map enc))) (hl : zs.length ≤ 1000000) (okb : blkC X.N X.env.scope scope own = true) (hg : Blk X scope fun X' => PG X' tg g)
    (hf : ∀ z ∈ zs, Asg X.K g (enc z) (f z) ix) (hix : ∀ i ∈ ix, i ∈ own.map (·.2))
    (he : ∀ z ∈ zs, Blk X scope fun X' => PE X' elt (tE X.K true (f z (wipeE env (own.map (·.2)))) (encB (y z))))
    (h : E.nx (env.set i (.own ((zs.map y).map encB)))) (hsw : swapsWith (.ListComp elt [⟨tg, iter, [], 0⟩] scope pos) (some (.Name x py)) spos.line X.env = pure true := by exact sw_true rfl rfl rfl (by decide +kernel)) (hyl : X.env.scope.names.lookup x = some .local := by rfl)
    (hc : X.calm = true := by rfl) (hs : ∀ x, foldedSetIterable iter X.env x = pure x := by intro _; rfl) : PS X (.Assign [.Name x py] (.ListComp elt [⟨tg, iter, [], 0⟩] scope pos) spos) (tS X.K env E) :=
  s_setLcA (y := fun z => encB (y z)) i hN hxi hi hl okb hg hf hix he (by rw [show (fun z => encB (y z)) = encB ∘ y from rfl, ← List.map_map]; exact h) hsw hyl hc hs
/-- for k in range(n), then the rest: U what the turns make of the slots -/
theorem c_forR {j : Nat} {n : Int} {body : List Stmt} {y : Str} (U : Nat → List (Nat × Sl)) (hp : PassesOwn (model X.prog X.w) X.A X.env X.xe) (hm : X.mg "range" = none) (ha : PE X a (tE X.K true env (.int n))) (hj : -(2 ^ 62) ≤ n ∧ n < 2 ^ 62)
    (hN : X.N.Nodup) (hi : X.N[j]? = some y) (h0 : LeE env (setAll env (U 0)))
    (hb : ∀ i : Nat, (i : Int) < n → PSs X body (tS X.K ((setAll env (U i)).set j (.dat (.int (i : Int)))) ⟨fun e => LeE e (setAll env (U (i + 1))), E.rt, fun e => PSs X rest (tS X.K e E), fun e => LeE e (setAll env (U (i + 1)))⟩)) (hd : PSs X rest (tS X.K (setAll env (U n.toNat)) E))
    (hc : X.calm = true := by rfl) (hx : Loc X.env.scope y := by first | exact .inl rfl | exact .inr rfl) (hf : X.fn y = true ∨ X.env.scope.names.lookup y = some .local := by first | exact .inl rfl | exact .inr rfl)
    (hs : ∀ x, foldedSetIterable (.Call (.Name "range" p) [a] [] p1) X.env x = pure x := by intro _; rfl) (hg : Gl X "range" := by rfl) (na : NS X a := by exact fun _ => rfl) : PSs X (.For (.Name y p3) (.Call (.Name "range" p) [a] [] p1) body [] pos :: rest) (tS X.K env E) :=
  s_cons (M := fun e => PSs X rest (tS X.K e E)) (s_forR (E := E.to fun e => PSs X rest (tS X.K e E)) (fun i => setAll env (U i)) hp hm ha hj hN hi h0 hb (fun e he => s_le he hd) hc hx hf hs hg na) fun e q => q
/-- n a length -/
theorem c_forRN {j : Nat} {n : Nat} {body : List Stmt} {y : Str} (U : Nat → List (Nat × Sl)) (hp : PassesOwn (model X.prog X.w) X.A X.env X.xe) (hm : X.mg "range" = none) (ha : PE X a (tE X.K true env (.int (n : Int)))) (hj : n < 2 ^ 62)
    (hN : X.N.Nodup) (hi : X.N[j]? = some y) (h0 : LeE env (setAll env (U 0)))
    (hb : ∀ i : Nat, i < n → PSs X body (tS X.K ((setAll env (U i)).set j (.dat (.int (i : Int)))) ⟨fun e => LeE e (setAll env (U (i + 1))), E.rt, fun e => PSs X rest (tS X.K e E), fun e => LeE e (setAll env (U (i + 1)))⟩)) (hd : PSs X rest (tS X.K (setAll env (U n)) E))
    (hc : X.calm = true := by rfl) (hx : Loc X.env.scope y := by first | exact .inl rfl | exact .inr rfl) (hf : X.fn y = true ∨ X.env.scope.names.lookup y = some .local := by first | exact .inl rfl | exact .inr rfl)
    (hs : ∀ x, foldedSetIterable (.Call (.Name "range" p) [a] [] p1) X.env x = pure x := by intro _; rfl) (hg : Gl X "range" := by rfl) (na : NS X a := by exact fun _ => rfl) : PSs X (.For (.Name y p3) (.Call (.Name "range" p) [a] [] p1) body [] pos :: rest) (tS X.K env E) :=
  c_forR U hp hm ha ⟨by omega, by omega⟩ hN hi h0 (fun i h => hb i (by omega)) hd hc hx hf hs hg na
theorem c_forL {α : Type} {enc : α → PyData} {zs : List α} {j : Nat} {l : Expr} {body : List Stmt} {y : Str} (U : Nat → List (Nat × Sl)) (hp : PassesOwn (model X.prog X.w) X.A X.env X.xe) (ha : PE X l (tE X.K true env (.list (zs.map enc))))
    (hN : X.N.Nodup) (hi : X.N[j]? = some y) (h0 : LeE env (setAll env (U 0)))
    (hb : ∀ (i : Nat) z, zs[i]? = some z → PSs X body (tS X.K ((setAll env (U i)).set j (.dat (enc z))) ⟨fun e => LeE e (setAll env (U (i + 1))), E.rt, fun e => PSs X rest (tS X.K e E), fun e => LeE e (setAll env (U (i + 1)))⟩)) (hd : PSs X rest (tS X.K (setAll env (U zs.length)) E))
    (hc : X.calm = true := by rfl) (hx : Loc X.env.scope y := by first | exact .inl rfl | exact .inr rfl) (hf : X.fn y = true ∨ X.env.scope.names.lookup y = some .local := by first | exact .inl rfl | exact .inr rfl)
    (hs : ∀ x, foldedSetIterable l X.env x = pure x := by intro _; rfl) : PSs X (.For (.Name y p3) l body [] pos :: rest) (tS X.K env E) :=
  s_cons (M := fun e => PSs X rest (tS X.K e E)) (s_forL (E := E.to fun e => PSs X rest (tS X.K e E)) (fun i => setAll env (U i)) hp ha hN hi h0 hb (fun e he => s_le he hd) hc hx hf hs) fun e q => q
/-- while: the state as a function of the turn; c tells whether it goes on -/
theorem c_while {body : List Stmt} (U : Nat → List (Nat × Sl)) (k : Nat → Bool) (n : Nat) (hp : PassesOwn (model X.prog X.w) X.A X.env X.xe) (h0 : LeE env (setAll env (U 0))) (hk : ∀ i, i < n → k i = true) (hn : k n = false)
    (hc : ∀ i, i ≤ n → PT X c (tT X.K (setAll env (U i)) (k i)))
    (hb : ∀ i, i < n → PSs X body (tS X.K (setAll env (U i)) ⟨fun e => LeE e (setAll env (U (i + 1))), E.rt, fun e => PSs X rest (tS X.K e E), fun e => LeE e (setAll env (U (i + 1)))⟩)) (hd : PSs X rest (tS X.K (setAll env (U n)) E)) : PSs X (.While c body [] pos :: rest) (tS X.K env E) := by
  refine s_cons (M := fun e => PSs X rest (tS X.K e E)) (s_le1 h0 ?_) fun e q => q
  refine psmono (ps_while (tc := fun σ H Q => ∃ i, i ≤ n ∧ tT X.K (setAll env (U i)) (k i) σ H Q) (tb := fun D σ H => ∃ i, i < n ∧ tS X.K (setAll env (U i)) ⟨fun e => LeE e (setAll env (U (i + 1))), E.rt, fun e => PSs X rest (tS X.K e E), fun e => LeE e (setAll env (U (i + 1)))⟩ D σ H) hp
    ⟨fun pins s σ H Q J ⟨i, h, q⟩ => (hc i h).run pins s σ H Q J q⟩ ⟨fun pins s σ H D J ⟨i, h, q⟩ => (hb i h).run pins s σ H D J q⟩) fun D σ H ⟨F0, H0, F, ok, nx, bk, ct, rt⟩ => ?_
  refine ⟨fun m σ' H' => ∃ i F', i ≤ n ∧ m = n - i ∧ Ok X.K F0 H0 (setAll env (U i)) σ' F' H', ⟨n, 0, F, Nat.zero_le _, rfl, ok⟩, ?_⟩
  rintro m σ' H' ⟨i, F', hi, rfl, ok'⟩
  refine ⟨i, hi, F0, H0, F', ok', fun F1 H1 g1 => ?_⟩
  by_cases hlt : i < n
  · rw [hk i hlt]
    show ∃ N : L2.St → Hp → Prop, _
    refine ⟨fun σ2 H2 => ∃ F2, Ok X.K F0 H0 (setAll env (U (i + 1))) σ2 F2 H2, fun σ2 H2 ⟨F2, q⟩ => ⟨n - (i + 1), by omega, i + 1, F2, hlt, rfl, q⟩, i, hlt, F0, H0, F1, ok'.grow g1, fun e2 σ2 F2 H2 h2 ok2 => ⟨F2, ok2.le h2⟩, fun e2 σ2 F2 H2 h2 ok2 => nx e2 σ2 F2 H2 h2 ok2, fun e2 σ2 F2 H2 h2 ok2 => ⟨F2, ok2.le h2⟩, rt⟩
  · have e : i = n := by omega
    subst e
    rw [hn]
    exact nx _ σ' F1 H1 hd (ok'.grow g1)
end
end D3
namespace D3
open PySem PySem.Spec L2
section
variable {X : Cx} {K : KF} {e a b c : Expr} {es : List Expr} {m m1 m2 m3 : Bool} {env : List Sl} {d d1 d2 : PyData} {ds ds1 ds2 : List PyData} {pos p p1 p2 p3 p4 : Pos} {x y : Str} {i j : Int} {E : DE} {st : Stmt} {rest : List Stmt} {ns : List Int}
theorem e_lenScrD (i : Nat) (hm : X.mg "len" = none) (he : env[i]? = some (.scr ns)) (hN : X.N[i]? = some x := by rfl) (hv : Vis X.env.scope x := by first | exact .inl rfl | exact .inr (.inl rfl) | exact .inr (.inr rfl)) (hd : (x == ("__debug__" : Str)) = false := by decide) (hcd : (x == ("__classdict__" : Str)) = false := by decide) (hg : Gl X "len" := by rfl) :
    PE X (.Call (.Name "len" p1) [.Name x p2] [] pos) (tE X.K m env (.int (ns.length : Int))) := e_lenScr i hm he hN hv hd hcd hg
theorem e_ixScrD (i : Nat) (he : env[i]? = some (.scr ns)) (hb : PE X b (tE X.K true env (.int j))) (hj : 0 ≤ j ∧ j < ns.length) (hN : X.N[i]? = some x := by rfl) (hv : Vis X.env.scope x := by first | exact .inl rfl | exact .inr (.inl rfl) | exact .inr (.inr rfl)) (hs : PlainIx b := by exact fun _ _ => rfl)
    (hd : (x == ("__debug__" : Str)) = false := by decide) (hcd : (x == ("__classdict__" : Str)) = false := by decide) : PE X (.Subscript (.Name x p1) b pos) (tE X.K m env (.int (ns.getD j.toNat 0))) :=
  e_ixScr he hN hv hb (atI_pos hj.1 hj.2) hs hd hcd
theorem s_setIxD {j : Int} (i : Nat) (ho : env[i]? = some (.own ds)) (he : PE X e (tE X.K true env d)) (hb : PE X b (tE X.K true env (.int j))) (hj : 0 ≤ j ∧ j < ds.length) (h : E.nx (env.set i (.own (ds.set j.toNat d)))) (hi : X.N[i]? = some x := by rfl) (hv : Vis X.env.scope x := by first | exact .inl rfl | exact .inr (.inl rfl) | exact .inr (.inr rfl))
    (hd : (x == ("__debug__" : Str)) = false := by decide) (hcd : (x == ("__classdict__" : Str)) = false := by decide)
    (ha : ∀ v, assign (.Subscript (.Name x p1) b p2) X.env v = (do
      let ov ← holding [v] (eval (.Name x p1) X.env)
      let iv ← holding [v, ov] (eval b X.env)
      standAt p2
      holding [v, ov, iv] (setItem ov iv v)
      release [v, ov, iv] []) := by intro _; rfl)
    (hs : swapsWithSole [.Subscript (.Name x p1) b p2] e pos.line X.env = pure false := by rfl) (hw : swappedStores [.Subscript (.Name x p1) b p2] e X.env = pure none := by rfl) : PS X (.Assign [.Subscript (.Name x p1) b p2] e pos) (tS X.K env E) :=
  s_setIx (k := j) (j := j.toNat) i hi hv ho he hb (by unfold ixN; rw [if_pos hj.1, if_pos hj.2]) h hd hcd (fun {t} ht => pg_sub (pe_var hi hv hd hcd) hb ht ha) hs hw
/-- the items of an own list as plain ones -/
theorem setMap {α : Type} {enc : α → PyData} {zs : List α} {n : Nat} {z : α} : (zs.map enc).set n (enc z) = (zs.set n z).map enc := by rw [List.map_set]
theorem o_callScrD {k : Nat} {R : List Int → RS → Prop} {rs : List PyData} (i : Nat) (D : Def X.prog X.w X.K X.mg X.base k x (spScr X.K R)) (hr : Room k X.A) (ho : env[i]? = some (.scr ns)) (hR : R ns (.own rs)) (hN : X.N[i]? = some y := by rfl) (hv : Vis X.env.scope y := by first | exact .inl rfl | exact .inr (.inl rfl) | exact .inr (.inr rfl)) (hg : Gl X x := by rfl) (hdb : (x == ("__debug__" : Str)) = false := by decide)
    (hd : (y == ("__debug__" : Str)) = false := by decide) (hcd : (y == ("__classdict__" : Str)) = false := by decide) : PE X (.Call (.Name x p) [.Name y pos] [] pos) (tO X.K env rs) := o_callScr i D hr hN hv ho hR hg hdb hd hcd
theorem o_callScrD' {k : Nat} {R : List Int → RS → Prop} {rs : List PyData} (i : Nat) (D : Def X.prog X.w X.K X.mg X.base k x (spScr X.K R)) (hr : Room k X.A) (ho : env[i]? = some (.scr ns)) (hR : R ns (.own rs)) (hN : X.N[i]? = some y := by rfl) (hv : Vis X.env.scope y := by first | exact .inl rfl | exact .inr (.inl rfl) | exact .inr (.inr rfl)) (hg : Gl X x := by rfl) (hdb : (x == ("__debug__" : Str)) = false := by decide)
    (hd : (y == ("__debug__" : Str)) = false := by decide) (hcd : (y == ("__classdict__" : Str)) = false := by decide) : PE X (.Call (.Name x p) [.Name y p2] [] pos) (tO X.K env rs) := by
  obtain ⟨f, fd, ps, Fo, hm, hk, hb⟩ := D
  exact pmono (pe_call (E := E0) Fo hr hg hm hk hb .nil pass0 (pa_cons (pe_var hN hv hd hcd) pa_nil) hdb) fun σ H Q ⟨F0, H0, F, ok, q⟩ => by
    obtain ⟨a, h1, h2⟩ := ok.scr i ns ho
    exact ⟨.ref a, h1, F, a, ns, .own rs, rfl, ok.g.fh, h2, hR, fun p vs2 F2 H2 g2 h1 h2 h3 h4 => q p vs2 F2 H2 g2 h1 h2 h3 h4⟩
theorem e_allD {bs : List Bool} (hm : X.mg "all" = none) (h : PE X e (tL X.K env (bs.map .bool))) (hg : Gl X "all" := by rfl) (hc : X.calm = true := by rfl) (ns : NS X e := by exact fun _ => rfl) : PE X (.Call (.Name "all" p1) [e] [] pos) (tE X.K m env (.bool (bs.all id))) := e_all hm h hg (by decide +kernel) (cr_all hc) ns
theorem e_anyD {bs : List Bool} (hm : X.mg "any" = none) (h : PE X e (tL X.K env (bs.map .bool))) (hg : Gl X "any" := by rfl) (hc : X.calm = true := by rfl) (ns : NS X e := by exact fun _ => rfl) : PE X (.Call (.Name "any" p1) [e] [] pos) (tE X.K m env (.bool (bs.any id))) := e_any hm h hg (by decide +kernel) (cr_any hc) ns
theorem o_init {α : Type} {enc : α → PyData} {zs : List α} {k : Nat} (h : PE X e (tL X.K env (zs.map enc))) : PE X (.Subscript e (.Slice none (some (.UnaryOp .USub (.Constant (.int 1) k p1) p2)) none p3) pos) (tO X.K env (zs.dropLast.map enc)) :=
  o_eq (o_sl h o_no (o_so (e_neg e_int))) (by rw [map_cutD]; congr 1; exact cut_m1)
theorem e_lenG {α : Type} {enc : α → PyData} {zs : List α} (hm : X.mg "len" = none) (h : PE X e (tL X.K env (zs.map enc))) (hg : Gl X "len" := by rfl) (ns : NS X e := by exact fun _ => rfl) : PE X (.Call (.Name "len" p1) [e] [] pos) (tE X.K m env (.int (zs.length : Int))) :=
  e_eq (e_len hm h hg ns) (by rw [List.length_map])
/-! ### comparisons, as values and as tests -/
theorem cmpE {op : CmpOp} {r : R2} {k : Bool} (ho : OpR X (compareOp op) r) (ha : PE X a (tE K m1 env d1)) (hb : PE X b (tE K m2 env d2)) (hm : behindInMarks op b = false)
    (hr : ∀ x y H Q, Dq K H x d1 → Dq K H y d2 → Q (.bl k) H → r x y H Q) : (PE X (.Compare a [op] [b] pos) (tE K m env (.bool k))) ∧ PT X (.Compare a [op] [b] pos) (tT K env k) :=
  ⟨e_cmp ho ha hb hm hr fun _ => .bl _, ptmono (pt_cmpR ho ha hb hm) fun σ H Q ⟨F0, H0, F, ok, q⟩ => ⟨F0, H0, F, ok, fun x F1 H1 g1 x1 => ⟨F0, H0, F1, ok.grow g1, fun y F2 H2 g2 y2 =>
    hr x y H2 (fun z H' => ∃ k, z = .bl k ∧ Q k H') (seldq g2.fh (selup g2 x1)) (seldq g2.fh y2) ⟨k, rfl, q F2 H2 (g1.trans g2)⟩⟩⟩⟩
section
variable {i j : Int}
theorem cI {op : CmpOp} {g : Int → Int → Bool} (ho : OpR X (compareOp op) (rI0 fun i j => .bl (g i j))) (ha : PE X a (tE K true env (.int i))) (hb : PE X b (tE K true env (.int j))) (hm : behindInMarks op b = false) : (PE X (.Compare a [op] [b] pos) (tE K m env (.bool (g i j)))) ∧ PT X (.Compare a [op] [b] pos) (tT K env (g i j)) :=
  cmpE ho ha hb hm fun x y H Q hx hy q => by cases hx; cases hy; exact ⟨i, j, rfl, rfl, q⟩
theorem c_lt (ha : PE X a (tE K true env (.int i))) (hb : PE X b (tE K true env (.int j))) : (PE X (.Compare a [.Lt] [b] pos) (tE K m env (.bool (decide (i < j))))) ∧ PT X (.Compare a [.Lt] [b] pos) (tT K env (decide (i < j))) := cI (g := fun i j => decide (i < j)) op_lt ha hb (nomark _)
theorem c_le (ha : PE X a (tE K true env (.int i))) (hb : PE X b (tE K true env (.int j))) : (PE X (.Compare a [.LtE] [b] pos) (tE K m env (.bool (decide (i ≤ j))))) ∧ PT X (.Compare a [.LtE] [b] pos) (tT K env (decide (i ≤ j))) := cI (g := fun i j => decide (i ≤ j)) op_le ha hb (nomark _)
theorem c_gt (ha : PE X a (tE K true env (.int i))) (hb : PE X b (tE K true env (.int j))) : (PE X (.Compare a [.Gt] [b] pos) (tE K m env (.bool (decide (j < i))))) ∧ PT X (.Compare a [.Gt] [b] pos) (tT K env (decide (j < i))) := cI (g := fun i j => decide (j < i)) op_gt ha hb (nomark _)
theorem c_ge (ha : PE X a (tE K true env (.int i))) (hb : PE X b (tE K true env (.int j))) : (PE X (.Compare a [.GtE] [b] pos) (tE K m env (.bool (decide (j ≤ i))))) ∧ PT X (.Compare a [.GtE] [b] pos) (tT K env (decide (j ≤ i))) := cI (g := fun i j => decide (j ≤ i)) op_ge ha hb (nomark _)
theorem c_eqI (ha : PE X a (tE K true env (.int i))) (hb : PE X b (tE K true env (.int j))) : (PE X (.Compare a [.Eq] [b] pos) (tE K m env (.bool (decide (i = j))))) ∧ PT X (.Compare a [.Eq] [b] pos) (tT K env (decide (i = j))) :=
  cmpE op_eq ha hb (nomark _) fun x y H Q hx hy q => by
    cases hx; cases hy
    refine ⟨rfl, ?_⟩
    have : decide (V.int i = V.int j) = decide (i = j) := by simp
    rw [this]; exact q
theorem c_neI (ha : PE X a (tE K true env (.int i))) (hb : PE X b (tE K true env (.int j))) : (PE X (.Compare a [.NotEq] [b] pos) (tE K m env (.bool (!decide (i = j))))) ∧ PT X (.Compare a [.NotEq] [b] pos) (tT K env (!decide (i = j))) :=
  cmpE op_ne ha hb (nomark _) fun x y H Q hx hy q => by
    cases hx; cases hy
    refine ⟨rfl, ?_⟩
    have : decide (V.int i = V.int j) = decide (i = j) := by simp
    rw [this]; exact q
end
theorem c_eqD (hu : X.A.units + 64 < cLine) (ha : PE X a (tE X.K m1 env d1)) (hb : PE X b (tE X.K m2 env d2)) (s1 : SeqAt.shaped d1 = true) (s2 : SeqAt.shaped d2 = true) : (PE X (.Compare a [.Eq] [b] pos) (tE X.K m env (.bool (PyData.eqv d1 d2)))) ∧ PT X (.Compare a [.Eq] [b] pos) (tT X.K env (PyData.eqv d1 d2)) :=
  cmpE (op_eqD hu) ha hb (nomark _) fun x y H Q hx hy q => ⟨d1, d2, Dq.dp _ _ hx, Dq.dp _ _ hy, s1, s2, q⟩
theorem c_neD (hu : X.A.units + 64 < cLine) (ha : PE X a (tE X.K m1 env d1)) (hb : PE X b (tE X.K m2 env d2)) (s1 : SeqAt.shaped d1 = true) (s2 : SeqAt.shaped d2 = true) : (PE X (.Compare a [.NotEq] [b] pos) (tE X.K m env (.bool (!PyData.eqv d1 d2)))) ∧ PT X (.Compare a [.NotEq] [b] pos) (tT X.K env (!PyData.eqv d1 d2)) :=
  cmpE (op_neD hu) ha hb (nomark _) fun x y H Q hx hy q => ⟨d1, d2, Dq.dp _ _ hx, Dq.dp _ _ hy, s1, s2, q⟩
theorem c_isB {k l : Bool} (ha : PE X a (tE K true env (.bool k))) (hb : PE X b (tE K true env (.bool l))) : (PE X (.Compare a [.Is] [b] pos) (tE K m env (.bool (decide (k = l))))) ∧ PT X (.Compare a [.Is] [b] pos) (tT K env (decide (k = l))) :=
  cmpE op_isBl ha hb (nomark _) fun x y H Q hx hy q => by cases hx; cases hy; exact ⟨k, l, rfl, rfl, q⟩
theorem c_notB {k l : Bool} (ha : PE X a (tE K true env (.bool k))) (hb : PE X b (tE K true env (.bool l))) : (PE X (.Compare a [.IsNot] [b] pos) (tE K m env (.bool (!decide (k = l))))) ∧ PT X (.Compare a [.IsNot] [b] pos) (tT K env (!decide (k = l))) :=
  cmpE op_notBl ha hb (nomark _) fun x y H Q hx hy q => by cases hx; cases hy; exact ⟨k, l, rfl, rfl, q⟩
def noneB : PyData → Bool | .none => true | _ => false
theorem c_isNone (ha : PE X a (tE K true env d)) {k : Nat} : (PE X (.Compare a [.Is] [.Constant .none k p1] pos) (tE K m env (.bool (noneB d)))) ∧ PT X (.Compare a [.Is] [.Constant .none k p1] pos) (tT K env (noneB d)) :=
  cmpE op_isN ha (e_non (m := true) (env := env)) (nomark _) fun x y H Q hx hy q => by
    cases hy
    refine ⟨rfl, ?_⟩
    cases hx <;> exact q
theorem c_notNone (ha : PE X a (tE K true env d)) {k : Nat} : (PE X (.Compare a [.IsNot] [.Constant .none k p1] pos) (tE K m env (.bool (!noneB d)))) ∧ PT X (.Compare a [.IsNot] [.Constant .none k p1] pos) (tT K env (!noneB d)) :=
  cmpE op_notN ha (e_non (m := true) (env := env)) (nomark _) fun x y H Q hx hy q => by
    cases hy
    refine ⟨rfl, ?_⟩
    cases hx <;> exact q
/-- zs * int(t) -/
theorem o_repB {α : Type} {enc : α → PyData} {zs : List α} {t : Bool} (ha : PE X a (tL X.K env (zs.map enc))) (hb : PE X b (tE X.K true env (.int (if t then 1 else 0)))) (hz : zs.length ≤ sizeLine) : PE X (.BinOp a .Mult b pos) (tO X.K env ((if t then zs else []).map enc)) := by
  have h := o_repG (pos := pos) ha hb (by cases t <;> decide) (by cases t <;> simp <;> omega)
  have e : repD zs (if t then 1 else 0) = (if t then zs else []) := by
    cases t with
    | false => rfl
    | true => show [zs].flatten = zs; simp
  rwa [e] at h
/-- a constant of the module -/
theorem e_globI {i : Int} (h : ∃ t, X.mg x = some (.int i t)) (hg : Gl X x := by rfl) (hd : (x == ("__debug__" : Str)) = false := by decide) : PE X (.Name x pos) (tE K m env (.int i)) := by
  obtain ⟨t, h⟩ := h
  exact e_const (pe_glob (v := .int i) hg h ⟨t, rfl⟩ hd) fun _ => .int i
theorem e_globS {z : Str} (h : ∃ t, X.mg x = some (.str z t)) (hg : Gl X x := by rfl) (hd : (x == ("__debug__" : Str)) = false := by decide) : PE X (.Name x pos) (tE K m env (.str z)) := by
  obtain ⟨t, h⟩ := h
  exact e_const (pe_glob (v := .str z) hg h ⟨t, rfl⟩ hd) fun _ => .str z
theorem e_addS {s t : Str} (hz : s.length + t.length ≤ sizeLine) (ha : PE X a (tE K true env (.str s))) (hb : PE X b (tE K true env (.str t))) : PE X (.BinOp a .Add b pos) (tE K m env (.str (s ++ t))) :=
  e_bin op_add_str ha hb (fun x y H Q hx hy q => by cases hx; cases hy; exact ⟨s, t, rfl, rfl, hz, q⟩) fun _ => .str _
theorem isi_int_int : kitB "int" "int" = some true := by decide +kernel
theorem isi_int_bool : kitB "int" "bool" = some false := by decide +kernel
theorem isi_int_str : kitB "int" "str" = some false := by decide +kernel
theorem isi_int_list : kitB "int" "list" = some false := by decide +kernel
theorem isi_int_tuple : kitB "int" "tuple" = some false := by decide +kernel
theorem isi_bool_int : kitB "bool" "int" = some true := by decide +kernel
theorem isi_bool_bool : kitB "bool" "bool" = some true := by decide +kernel
theorem isi_bool_str : kitB "bool" "str" = some false := by decide +kernel
theorem isi_bool_list : kitB "bool" "list" = some false := by decide +kernel
theorem isi_bool_tuple : kitB "bool" "tuple" = some false := by decide +kernel
theorem isi_str_int : kitB "str" "int" = some false := by decide +kernel
theorem isi_str_bool : kitB "str" "bool" = some false := by decide +kernel
theorem isi_str_str : kitB "str" "str" = some true := by decide +kernel
theorem isi_str_list : kitB "str" "list" = some false := by decide +kernel
theorem isi_str_tuple : kitB "str" "tuple" = some false := by decide +kernel
theorem isi_NoneType_int : kitB "NoneType" "int" = some false := by decide +kernel
theorem isi_NoneType_bool : kitB "NoneType" "bool" = some false := by decide +kernel
theorem isi_NoneType_str : kitB "NoneType" "str" = some false := by decide +kernel
theorem isi_NoneType_list : kitB "NoneType" "list" = some false := by decide +kernel
theorem isi_NoneType_tuple : kitB "NoneType" "tuple" = some false := by decide +kernel
theorem isi_list_int : kitB "list" "int" = some false := by decide +kernel
theorem isi_list_bool : kitB "list" "bool" = some false := by decide +kernel
theorem isi_list_str : kitB "list" "str" = some false := by decide +kernel
theorem isi_list_list : kitB "list" "list" = some true := by decide +kernel
theorem isi_list_tuple : kitB "list" "tuple" = some false := by decide +kernel
theorem isi_tuple_int : kitB "tuple" "int" = some false := by decide +kernel
theorem isi_tuple_bool : kitB "tuple" "bool" = some false := by decide +kernel
theorem isi_tuple_str : kitB "tuple" "str" = some false := by decide +kernel
theorem isi_tuple_list : kitB "tuple" "list" = some false := by decide +kernel
theorem isi_tuple_tuple : kitB "tuple" "tuple" = some true := by decide +kernel
/-! ### loops as functions -/
def iter {α : Type} (f : Nat → α → α) (s : α) : Nat → α
  | 0 => s
  | n + 1 => f n (iter f s n)
theorem iter_succ {α : Type} (f : Nat → α → α) (s : α) (n : Nat) : iter f s (n + 1) = f n (iter f s n) := rfl
theorem iter_ind {α : Type} {f : Nat → α → α} {s : α} (P : Nat → α → Prop) (h0 : P 0 s) : ∀ n : Nat, (∀ i x, i < n → P i x → P (i + 1) (f i x)) → P n (iter f s n)
  | 0, _ => h0
  | n + 1, h => h n _ (Nat.lt_succ_self n) (iter_ind P h0 n fun i x hi => h i x (Nat.lt_succ_of_lt hi))
def itl {α β : Type} (f : α → β → α) (s : α) (zs : List β) (i : Nat) : α := (zs.take i).foldl f s
theorem itl_zero {α β : Type} (f : α → β → α) (s : α) (zs : List β) : itl f s zs 0 = s := rfl
theorem itl_succ {α β : Type} {f : α → β → α} {s : α} {zs : List β} {i : Nat} {z : β} (h : zs[i]? = some z) : itl f s zs (i + 1) = f (itl f s zs i) z := by
  unfold itl
  rw [List.take_add_one, h, List.foldl_append]
  rfl
theorem itl_all {α β : Type} (f : α → β → α) (s : α) (zs : List β) : itl f s zs zs.length = zs.foldl f s := by
  unfold itl
  rw [List.take_length]
theorem own_rep {m n : Nat} (h : m = n) : Sl.own ((List.replicate m (0 : Int)).map PyData.int) = Sl.own ((List.replicate n 0).map .int) := by rw [h]
theorem dat_int {i j : Int} (h : i = j) : Sl.dat (.int i) = Sl.dat (.int j) := by rw [h]
/-! ### sizes of ints -/
def Sm (n : Nat) (x : Int) : Prop := x.natAbs < 2 ^ n
theorem Sm.mul {a b : Nat} {x y : Int} (hx : Sm a x) (hy : Sm b y) : Sm (a + b) (x * y) := by
  unfold Sm at *
  rw [Int.natAbs_mul, Nat.pow_add]
  exact Nat.mul_lt_mul'' hx hy
theorem Sm.up {a b : Nat} {x : Int} (hx : Sm a x) (h : a ≤ b) : Sm b x := Nat.lt_of_lt_of_le hx (Nat.pow_le_pow_right (by decide) h)
theorem Sm.add {a : Nat} {x y : Int} (hx : Sm a x) (hy : Sm a y) : Sm (a + 1) (x + y) := by
  unfold Sm at *
  have h := Int.natAbs_add_le x y
  rw [Nat.pow_succ]
  omega
theorem Sm.neg {a : Nat} {x : Int} (hx : Sm a x) : Sm a (-x) := by
  unfold Sm at *
  rw [Int.natAbs_neg]; exact hx
theorem Sm.of {n : Nat} {x : Int} {b : Int} (h : -b < x ∧ x < b) (hb : b ≤ 2 ^ n) : Sm n x := by
  unfold Sm
  have : (x.natAbs : Int) < ((2 ^ n : Nat) : Int) := by
    rw [Int.natCast_pow]
    show (x.natAbs : Int) < (2 : Int) ^ n
    omega
  exact Int.ofNat_lt.mp this
theorem Sm.mulW {a b : Nat} {x y : Int} (hx : Sm a x) (hy : Sm b y) (h : a + b < 999990) : CMulW x y :=
  wide_mul (a := a + 1) (b := b + 1) (hx.up (Nat.le_succ _)) (hy.up (Nat.le_succ _)) (by omega) (by omega) (by omega)
/-! ### equality of data, typed -/
theorem eqv_ints : ∀ (xs ys : List Int), PyData.eqvAll (xs.map .int) (ys.map .int) = decide (xs = ys)
  | [], [] => by simp [PyData.eqvAll]
  | x :: xs, [] => by simp [PyData.eqvAll]
  | [], y :: ys => by simp [PyData.eqvAll]
  | x :: xs, y :: ys => by
    rw [List.map_cons, List.map_cons, PyData.eqvAll, eqv_ints xs ys, PyData.eqv]
    by_cases h : x = y
    · subst h; simp
    · simp [h]
end
theorem lay_ints : ∀ (xs : List Int), PyData.canLayAll0 (xs.map .int) = true ∧ PyData.depthAll (xs.map .int) ≤ 1
  | [] => by simp [PyData.canLayAll0, PyData.depthAll]
  | x :: xs => by
    have ih := lay_ints xs
    simp only [List.map_cons, PyData.canLayAll0, PyData.depthAll, PyData.canLay0, PyData.depth, ih.1, Bool.and_self, true_and]
    omega
theorem shaped_ints (xs : List Int) : SeqAt.shaped (.list (xs.map .int)) = true := by
  have h := lay_ints xs
  unfold SeqAt.shaped
  rw [Bool.and_eq_true]
  refine ⟨by simp only [PyData.canLay0]; exact h.1, decide_eq_true ?_⟩
  simp only [PyData.depth]
  omega
end D3
namespace D3
open PySem PySem.Spec L2

/-! ### equality, shape of typed data -/
structure EqOk {α : Type} [DecidableEq α] (enc : α → PyData) : Prop where
  eq : ∀ x y : α, PyData.eqv (enc x) (enc y) = decide (x = y)
theorem eqI : EqOk PyData.int := ⟨fun x y => by rw [PyData.eqv]; rfl⟩
theorem eqB : EqOk PyData.bool := ⟨fun x y => by rw [PyData.eqv]; cases x <;> cases y <;> rfl⟩
theorem eqS : EqOk PyData.str := ⟨fun x y => by rw [PyData.eqv]; exact Bool.beq_eq_decide_eq x y⟩
theorem eqv_all {α : Type} [DecidableEq α] {enc : α → PyData} (h : EqOk enc) : ∀ (xs ys : List α), PyData.eqvAll (xs.map enc) (ys.map enc) = decide (xs = ys)
  | [], [] => by simp [PyData.eqvAll]
  | x :: xs, [] => by simp [PyData.eqvAll]
  | [], y :: ys => by simp [PyData.eqvAll]
  | x :: xs, y :: ys => by
    rw [List.map_cons, List.map_cons, PyData.eqvAll, eqv_all h xs ys, h.eq]
    by_cases e : x = y
    · subst e; simp
    · simp [e]
theorem eqL {α : Type} [DecidableEq α] {enc : α → PyData} (h : EqOk enc) : EqOk (eL enc) := ⟨fun x y => by
  show PyData.eqv (.list (x.map enc)) (.list (y.map enc)) = _
  rw [PyData.eqv]; exact eqv_all h x y⟩
theorem eqT2 {α β : Type} [DecidableEq α] [DecidableEq β] {f : α → PyData} {g : β → PyData} (h1 : EqOk f) (h2 : EqOk g) : EqOk (eT2 f g) := ⟨fun x y => by
  show PyData.eqv (.tuple [f x.1, g x.2]) (.tuple [f y.1, g y.2]) = _
  obtain ⟨a, b⟩ := x
  obtain ⟨c, d⟩ := y
  simp only [PyData.eqv, PyData.eqvAll, h1.eq, h2.eq, Bool.and_true]
  by_cases e : a = c <;> by_cases e2 : b = d <;> simp [e, e2]⟩
theorem eqT3 {α β γ : Type} [DecidableEq α] [DecidableEq β] [DecidableEq γ] {f : α → PyData} {g : β → PyData} {h : γ → PyData} (h1 : EqOk f) (h2 : EqOk g) (h3 : EqOk h) : EqOk (eT3 f g h) := ⟨fun x y => by
  show PyData.eqv (.tuple [f x.1, g x.2.1, h x.2.2]) (.tuple [f y.1, g y.2.1, h y.2.2]) = _
  obtain ⟨a, b, u⟩ := x
  obtain ⟨c, d, v⟩ := y
  simp only [PyData.eqv, PyData.eqvAll, h1.eq, h2.eq, h3.eq, Bool.and_true]
  by_cases e : a = c <;> by_cases e2 : b = d <;> by_cases e3 : u = v <;> simp [e, e2, e3]⟩
structure ShOk {α : Type} (enc : α → PyData) (n : Nat) : Prop where
  sh : ∀ x : α, (enc x).canLay0 = true ∧ (enc x).depth ≤ n
theorem shI : ShOk PyData.int 0 := ⟨fun x => by simp [PyData.canLay0, PyData.depth]⟩
theorem shB : ShOk PyData.bool 0 := ⟨fun x => by simp [PyData.canLay0, PyData.depth]⟩
theorem lay_all {α : Type} {enc : α → PyData} {n : Nat} (h : ShOk enc n) : ∀ (xs : List α), PyData.canLayAll0 (xs.map enc) = true ∧ PyData.depthAll (xs.map enc) ≤ n
  | [] => by simp [PyData.canLayAll0, PyData.depthAll]
  | x :: xs => by
    have ih := lay_all h xs
    have hx := h.sh x
    simp only [List.map_cons, PyData.canLayAll0, PyData.depthAll, hx.1, ih.1, Bool.and_self, true_and]
    omega
theorem shL {α : Type} {enc : α → PyData} {n : Nat} (h : ShOk enc n) : ShOk (eL enc) (n + 1) := ⟨fun x => by
  have := lay_all h x
  simp only [eL, PyData.canLay0, PyData.depth]
  exact ⟨this.1, by omega⟩⟩
theorem shT2 {α β : Type} {f : α → PyData} {g : β → PyData} {n m : Nat} (h1 : ShOk f n) (h2 : ShOk g m) : ShOk (eT2 f g) (max n m + 1) := ⟨fun x => by
  have a := h1.sh x.1
  have b := h2.sh x.2
  simp only [eT2, PyData.canLay0, PyData.depth, PyData.canLayAll0, PyData.depthAll, a.1, b.1, Bool.and_self, true_and]
  omega⟩
theorem shT3 {α β γ : Type} {f : α → PyData} {g : β → PyData} {h : γ → PyData} {n m k : Nat} (h1 : ShOk f n) (h2 : ShOk g m) (h3 : ShOk h k) : ShOk (eT3 f g h) (max n (max m k) + 1) := ⟨fun x => by
  have a := h1.sh x.1
  have b := h2.sh x.2.1
  have c := h3.sh x.2.2
  simp only [eT3, PyData.canLay0, PyData.depth, PyData.canLayAll0, PyData.depthAll, a.1, b.1, c.1, Bool.and_self, true_and]
  omega⟩
theorem ShOk.shaped {α : Type} {enc : α → PyData} {n : Nat} (h : ShOk enc n) (hn : n ≤ 64) (x : α) : SeqAt.shaped (enc x) = true := by
  unfold SeqAt.shaped
  rw [Bool.and_eq_true]
  exact ⟨(h.sh x).1, decide_eq_true (Nat.le_trans (h.sh x).2 hn)⟩

section
variable {X : Cx} {K : KF} {e a b c : Expr} {es : List Expr} {m m1 m2 m3 : Bool} {env : List Sl} {d d1 d2 : PyData} {ds ds1 ds2 : List PyData} {pos p p1 p2 p3 p4 : Pos} {x y : Str} {i j : Int} {E : DE} {st : Stmt} {rest : List Stmt} {ns : List Int}
theorem c_eqG {α : Type} [DecidableEq α] {enc : α → PyData} {u v : α} {n : Nat} (q : EqOk enc) (s : ShOk enc n) (hn : n ≤ 64) (hu : X.A.units + 64 < cLine) (ha : PE X a (tE X.K m1 env (enc u))) (hb : PE X b (tE X.K m2 env (enc v))) : (PE X (.Compare a [.Eq] [b] pos) (tE X.K m env (.bool (decide (u = v))))) ∧ PT X (.Compare a [.Eq] [b] pos) (tT X.K env (decide (u = v))) := by
  have h := c_eqD (pos := pos) (m := m) hu ha hb (s.shaped hn _) (s.shaped hn _)
  rwa [q.eq] at h
theorem c_neG {α : Type} [DecidableEq α] {enc : α → PyData} {u v : α} {n : Nat} (q : EqOk enc) (s : ShOk enc n) (hn : n ≤ 64) (hu : X.A.units + 64 < cLine) (ha : PE X a (tE X.K m1 env (enc u))) (hb : PE X b (tE X.K m2 env (enc v))) : (PE X (.Compare a [.NotEq] [b] pos) (tE X.K m env (.bool (!decide (u = v))))) ∧ PT X (.Compare a [.NotEq] [b] pos) (tT X.K env (!decide (u = v))) := by
  have h := c_neD (pos := pos) (m := m) hu ha hb (s.shaped hn _) (s.shaped hn _)
  rwa [q.eq] at h
/-- texts -/
theorem c_eqS {u v : Str} (ha : PE X a (tE K m1 env (.str u))) (hb : PE X b (tE K m2 env (.str v))) : (PE X (.Compare a [.Eq] [b] pos) (tE K m env (.bool (decide (u = v))))) ∧ PT X (.Compare a [.Eq] [b] pos) (tT K env (decide (u = v))) :=
  cmpE op_eq ha hb (nomark _) fun x y H Q hx hy q => by
    cases hx; cases hy
    refine ⟨rfl, ?_⟩
    have : decide (V.str u = V.str v) = decide (u = v) := by simp
    rw [this]; exact q
theorem c_neS {u v : Str} (ha : PE X a (tE K m1 env (.str u))) (hb : PE X b (tE K m2 env (.str v))) : (PE X (.Compare a [.NotEq] [b] pos) (tE K m env (.bool (!decide (u = v))))) ∧ PT X (.Compare a [.NotEq] [b] pos) (tT K env (!decide (u = v))) :=
  cmpE op_ne ha hb (nomark _) fun x y H Q hx hy q => by
    cases hx; cases hy
    refine ⟨rfl, ?_⟩
    have : decide (V.str u = V.str v) = decide (u = v) := by simp
    rw [this]; exact q
theorem o_nilG {α : Type} {enc : α → PyData} : PE X (.List [] pos) (tO X.K env (([] : List α).map enc)) := o_nil
theorem e_tup2 {α β : Type} {f : α → PyData} {g : β → PyData} {u : α} {v : β} {x1} (ha : PE X a (tE X.K true env (f u))) (hb : PE X b (tE X.K true env (g v))) (na : NS X a := by exact fun _ => rfl) (nb : NS X b := by exact fun _ => rfl) : PE X (.Tuple [a, b] x1 pos) (tE X.K m env (eT2 f g (u, v))) :=
  e_tup (a_cons ha (a_cons hb a_nil (nb [])) (na [b])) (by show 2 ≤ sizeLine; rw [sizeLine_eq]; omega)
theorem e_tup3 {α β γ : Type} {f : α → PyData} {g : β → PyData} {h : γ → PyData} {u : α} {v : β} {w : γ} {x1} (ha : PE X a (tE X.K true env (f u))) (hb : PE X b (tE X.K true env (g v))) (hc : PE X c (tE X.K true env (h w))) (na : NS X a := by exact fun _ => rfl) (nb : NS X b := by exact fun _ => rfl) (nc : NS X c := by exact fun _ => rfl) : PE X (.Tuple [a, b, c] x1 pos) (tE X.K m env (eT3 f g h (u, v, w))) :=
  e_tup (a_cons ha (a_cons hb (a_cons hc a_nil (nc [])) (nb [c])) (na [b, c])) (by show 3 ≤ sizeLine; rw [sizeLine_eq]; omega)

/-! ### new lists in a new list, thrown away after their change -/
structure OwnAll (K : KF) (H F' H' : Hp) (vs : List V) (dss : List (List PyData)) : Prop where
  len : vs.length = dss.length
  at_ : ∀ (i : Nat) (ds : List PyData), dss[i]? = some ds → ∃ p ws, vs[i]? = some (.ref p) ∧ H p = none ∧ F' p = none ∧ H' p = some (.lst ws) ∧ DqAll K F' ws ds
def tAO (K : KF) (env : List Sl) (dss : List (List PyData)) : TA := fun σ H Q => ∃ F0 H0 F, Ok K F0 H0 env σ F H ∧ ∀ vs F' H', Grow F H F' H' → OwnAll K H F' H' vs dss → Q vs H'
theorem ao_nil : PA X [] (tAO K env []) := pamono pa_nil fun σ H Q ⟨F0, H0, F, ok, q⟩ => q [] F H (Grow.refl ok.g.fh) ⟨rfl, fun i ds h => by simp at h⟩
theorem ao_cons {dss : List (List PyData)} (ha : PE X a (tO K env ds)) (hs : PA X es (tAO K env dss)) (hst : starEach (a :: es) X.env = (false, eval a X.env) :: starEach es X.env := by rfl) : PA X (a :: es) (tAO K env (ds :: dss)) :=
  pamono (pa_cons ha hs hst) fun σ H Q ⟨F0, H0, F, ok, q⟩ => ⟨F0, H0, F, ok, fun p ws F1 H1 g1 h1 h2 h3 h4 => ⟨F0, H0, F1, ok.grow g1, fun vs F2 H2 g2 o => q (.ref p :: vs) F2 H2 (g1.trans g2) ⟨by simp [o.len], fun i es hi => by
    cases i with
    | zero =>
      simp at hi; subst hi
      exact ⟨p, ws, rfl, h1, g2.old p h2 (by rw [h3]; simp), g2.hh _ _ h3, h4.up g2.ff⟩
    | succ i =>
      obtain ⟨r, us, a1, a2, a3, a4, a5⟩ := o.at_ i es (by simpa using hi)
      exact ⟨r, us, by simpa using a1, g1.hh.back a2, a3, a4, a5⟩⟩⟩⟩
theorem ao_consG {α : Type} {enc : α → PyData} {z : List α} {zs : List (List α)} (ha : PE X a (tO K env (z.map enc))) (hs : PA X es (tAO K env (zs.map (·.map enc)))) (hst : starEach (a :: es) X.env = (false, eval a X.env) :: starEach es X.env := by rfl) : PA X (a :: es) (tAO K env ((z :: zs).map (·.map enc))) := ao_cons ha hs hst
theorem ao_nilG {α : Type} {enc : α → PyData} : PA X [] (tAO K env (([] : List (List α)).map (·.map enc))) := ao_nil
theorem Ex.froze {F H : Hp} (e : Ex F H) : ∀ (ps : List Addr), (∀ p ∈ ps, F p = none) → (∀ p ∈ ps, ∃ o, H p = some o) → ∃ F', Ex F F' ∧ Ex F' H ∧ (∀ p ∈ ps, F' p = H p) ∧ ∀ a, F' a ≠ none → F a ≠ none ∨ a ∈ ps
  | [], _, _ => ⟨F, Ex.refl _, e, (fun p h => by cases h), fun a h => .inl h⟩
  | p :: ps, hf, hh => by
    obtain ⟨F', a, b, c, d⟩ := Ex.froze e ps (fun q hq => hf q (List.mem_cons_of_mem _ hq)) (fun q hq => hh q (List.mem_cons_of_mem _ hq))
    obtain ⟨o, ho⟩ := hh p (List.mem_cons_self ..)
    by_cases hp : F' p = none
    · refine ⟨upd F' p o, a.trans (Ex.new hp), b.at_ ho, fun q hq => ?_, fun r hr => ?_⟩
      · by_cases e1 : q = p
        · subst e1; rw [upd_same, ho]
        · rw [upd_ne e1]
          exact c q ((List.mem_cons.mp hq).resolve_left e1)
      · by_cases e1 : r = p
        · subst e1; exact .inr (List.mem_cons_self ..)
        · rw [upd_ne e1] at hr
          exact (d r hr).imp id (List.mem_cons_of_mem _)
    · have hp' : F' p = H p := by
        cases h1 : F' p with
        | none => exact absurd h1 hp
        | some u => rw [b p u h1]
      refine ⟨F', a, b, fun q hq => ?_, fun r hr => (d r hr).imp id (List.mem_cons_of_mem _)⟩
      rcases List.mem_cons.mp hq with rfl | hq
      · exact hp'
      · exact c q hq
/-- if test: .. (never), then the rest -/
theorem c_ifF {k : Bool} {t1 : List Stmt} (hc : PT X c (tT K env k)) (hk : k = false) (h : PSs X rest (tS K env E)) : PSs X (.If c t1 [] pos :: rest) (tS K env E) :=
  s_then (s_if hc (fun z => by rw [hk] at z; cases z) (fun _ => s_nil rfl)) h
/-- the state, written otherwise -/
theorem s_env {env' : List Sl} {sts : List Stmt} (h : env = env') (k : PSs X sts (tS K env' E)) : PSs X sts (tS K env E) := h ▸ k
/-- a slot's value, forgotten but for what is known of it -/
theorem s_abs {α : Type} {enc : α → PyData} {z : α} {sts : List Stmt} (i : Nat) (he : env[i]? = some (.dat (enc z))) (P : α → Prop) (hz : P z) (h : ∀ z, P z → PSs X sts (tS K (env.set i (.dat (enc z))) E)) : PSs X sts (tS K env E) := by
  have e : env.set i (.dat (enc z)) = env := by
    obtain ⟨h1, h2⟩ := List.getElem?_eq_some_iff.mp he
    rw [← h2, List.set_getElem_self]
  have := h z hz
  rwa [e] at this
theorem s_appG {α : Type} {enc : α → PyData} {zs : List α} {z : α} (i : Nat) (ho : env[i]? = some (.own (zs.map enc))) (he : PE X e (tE X.K true env (enc z))) (hz : zs.length < sizeLine) (h : E.nx (env.set i (.own ((zs ++ [z]).map enc))))
    (hi : X.N[i]? = some x := by rfl) (hv : Vis X.env.scope x := by first | exact .inl rfl | exact .inr (.inl rfl) | exact .inr (.inr rfl))
    (hd : (x == ("__debug__" : Str)) = false := by decide) (hcd : (x == ("__classdict__" : Str)) = false := by decide) (na : NS X e := by exact fun _ => rfl)
    (hbase : attributeBase (.Name x p1) "append" X.env (eval (.Name x p1) X.env) = eval (.Name x p1) X.env := by rfl) (hline : (p2.endLine == p3.line) = true := by rfl)
    (hs : swapsWith (.Call (.Attribute (.Name x p1) "append" p2) [e] [] p3) none pos.line X.env = pure false := by rfl) : PS X (.Expr (.Call (.Attribute (.Name x p1) "append" p2) [e] [] p3) pos) (tS X.K env E) :=
  s_app i hi hv ho he (by rw [List.length_map]; exact hz) (by rw [List.map_append] at h; exact h) hd hcd na hbase hline hs
end
end D3
namespace D3
open PySem PySem.Spec L2

/-! ### a law that asks for repr: where it runs is known -/
section
variable {P : Program} {w : World} {K : KF} {mg : Str → Option Value} {x qual : Str} {st : Stmt} {fa : Addr} {fd : FuncData} {N : List Str} {k : Nat}
/-- the law's def, run where a law is run -/
def LawAt (P : Program) (w : World) (K : KF) (mg : Str → Option Value) (k : Nat) (fa : Addr) (fd : FuncData) (R : List Int → RS → Prop) : Prop :=
  ∀ (base : Heap) (s : Shared) (H : Hp) (u : Value) (a : Addr) (ns : List Int) (r : RS) (Q : VK), Env0 P w K mg base callerA [] s H → BindsTo s fd ⟨[u], []⟩ [("script", u)] → RelV (.ref a) u → SqL K H a (ns.map V.int) → R ns r → RtOk K H H r Q →
    codeAny (model P w) callerA (.call (.ref fa) ⟨[u], []⟩) (CR CX0 [] P w H s Q E0) s
theorem law_at {R : List Int → RS → Prop} (F : Fn K x qual st fa fd) (S : FnScope N ["script"] (defScope st)) (hr : Room (k + 1) callerA)
    (hb : ∀ (base : Heap) (cdv : Value) (s : Shared) (H : Hp) (ns : List Int) (r : RS), Room k (callerA.deeper (PyProof.Rows.envOfC qual (defScope st) s.heap.objs.size fa cdv)) → R ns r →
      PSs (cx0 P w K mg base N qual st fa cdv callerA [] s H E0) (defBody st) (tS K (.scr ns :: List.replicate (N.length - 1) .no) ⟨fun _ => r = .dat .none, (· = r), fun _ => False, fun _ => False⟩)) : LawAt P w K mg k fa fd R := by
  intro base s H u a ns r Q env0' bd rel hS hR hQ
  obtain ⟨oc, od, dV, kV, doc, pm, an, cdv, ct, osl, e, lk, hcd, _, _⟩ := F.ex
  subst e
  have kin : K.In s.heap := env0'.mod.kin.keeps fun b o q => (env0'.bs b o q).1
  have lim := env0'.mod.nolimit.keeps fun b o q => (env0'.bs b o q).1
  have kinds : ∀ y ∈ [(("script" : Str), u)], (defScope st).names.lookup y.1 = some .local ∨ ((defScope st).names.lookup y.1 = some .cell ∧ ((cellsFrom (s.heap.objs.size + 1) (defScope st).names []).lookup y.1).isSome = true) := by
    intro y hy
    rw [List.mem_singleton] at hy
    subst hy
    exact (S.par "script" (List.mem_singleton.mpr rfl)).imp id fun q => ⟨q, PySem.W.cellsFrom_some _ _ _ (.inl q)⟩
  refine codeAny_call_function hr.depth (kin _ _ lk) rfl S.co S.gen rfl
    (PySem.W.codeRec_of kin hcd) (bd _ _ _ _ ?_)
  refine wpAny_newFunctionEnv_cells S.kind kinds fun env he s1 st1 => ?_
  subst he
  refine ⟨lim.keeps st1.toInCall.keep, codeAny_func ?_⟩
  have body := hb base cdv s H ns r (hr.deeper _) hR
  have I : Inv (cxOf CX0 P w K mg base N qual (defScope st) fa cdv callerA [] s H E0) [] (L2.start N [.ref a]) H s1 :=
    inv_start S hr.hd env0' rfl (.cons rel .nil) st1
  have rd : tS K (.scr ns :: List.replicate (N.length - 1) .no) ⟨fun _ => r = .dat .none, (· = r), fun _ => False, fun _ => False⟩ { nx := fun _ H' => Q .non H', rt := Q } (L2.start N [.ref a]) H := by
    refine ⟨H, H, H, ok_scr N (Ex.refl H) hS, fun e' σ' F' H' hn ok' => ?_, fun _ _ _ _ z => z.elim, fun _ _ _ _ z => z.elim, fun r' hr' => ?_⟩
    · subst hn
      exact hQ .non F' H' ok'.g .non
    · subst hr'
      exact hQ
  refine wpAny_mono ((PSs.nox body).run [] s1 _ H _ I rd) (fun fl s' h => ?_) fun _ _ h => h
  cases fl with
  | ret z =>
    obtain ⟨v, σ', H', J, rv, q⟩ := h
    exact ⟨v, H', J.os, J.bare, J.base, J.hok, rv, q⟩
  | next =>
    obtain ⟨σ', H', J, q⟩ := h
    exact ⟨.non, H', J.os, J.bare, J.base, J.hok, rfl, q⟩
  | brk => exact h.elim fun _ h => h.elim fun _ h => h.2.elim
  | cont => exact h.elim fun _ h => h.elim fun _ h => h.2.elim
end
/-- the end of such a law -/
theorem law_ends {P : Program} {w : World} {K : KF} {mg mb : Str → Option Value} {k : Nat} {fa a : Addr} {fd : FuncData} {s₁ : Shared} {vs : List Value} {ns : List Int}
    (kx : K.In s₁.heap) (hns : s₁.heap.Ns mainGlobals mg) (hbn : s₁.heap.Ns builtinsNs mb) (hbb : ∀ x : Str, x ≠ "__name__" → mb x = bootBuiltins x) (lim : s₁.heap.NoLimit) (hgen : s₁.gens = #[])
    (ha : s₁.heap.get? a = some { cls := .type "list", data := .seq vs.toArray }) (hi : PyProof.Rows.IntsAre vs ns) (hl : ns.length ≤ 63)
    (F : LawAt P w K mg k fa fd fun ns r => ns.length ≤ 63 ∧ r = .dat (.bool true)) (bd : ∀ (s : Shared) (u : Value), BindsTo s fd ⟨[u], []⟩ [("script", u)]) :
    codeAny (model P w) callerA (.call (.ref fa) ⟨[.ref a], []⟩) (fun r s' => r = .ok (.ret (.bool true)) ∧ OldK s₁.heap s'.heap ∧ s'.os = s₁.os ∧ PyProof.Rows.AllBare s'.gens) s₁ := by
  have hsz : ns.length ≤ sizeLine := by rw [sizeLine_eq]; omega
  have len := hi.length
  have go : ∀ H : Hp, L2.Only H → SqL K H a (ns.map V.int) → HOk P w H s₁.heap → (∀ b, H b ≠ none → b = a) → (H a ≠ none → K.lookup a = none) →
      codeAny (model P w) callerA (.call (.ref fa) ⟨[.ref a], []⟩) (fun r s' => r = .ok (.ret (.bool true)) ∧ OldK s₁.heap s'.heap ∧ s'.os = s₁.os ∧ PyProof.Rows.AllBare s'.gens) s₁ := by
    intro H only hS hok one notK
    have free : ∀ {b : Addr} {o : Obj} {es : Array DictEntry} {ep : Nat}, s₁.heap.get? b = some o → o.data = .dict es ep → H b = none := by
      intro b o es ep e d
      by_cases q : H b = none
      · exact q
      · have hb := one b q
        rw [hb, ha] at e
        have e2 := (Option.some.inj e).symm
        rw [e2] at d
        cases d
    have back : ∀ {b : Addr} {m : Str → Option Value}, s₁.heap.Ns b m → (hidT s₁.heap H).Ns b m := by
      rintro b m ⟨o, es, ep, e, d, r⟩
      exact ⟨o, es, ep, hidT_get e (free e d), d, r⟩
    have kin : K.In (hidT s₁.heap H) := by
      intro b o e
      refine hidT_get (kx b o e) ?_
      by_cases q : H b = none
      · exact q
      · have hb := one b q
        rw [hb] at e q
        rw [notK q] at e
        cases e
    have md : Mod K mg (hidT s₁.heap H) := by
      refine ⟨kin, back hns, ⟨mb, back hbn, hbb⟩, ?_⟩
      obtain ⟨mc, h1, h2⟩ := lim
      exact ⟨mc, back h1, h2⟩
    have en : Env0 P w K mg (hidT s₁.heap H) callerA [] s₁ H := by
      refine ⟨rfl, md, fun b o e => of_hidT e, Nat.le_of_eq (hidT_size _ _), trivial, fun b hb => ?_, hok, .of_eq hgen⟩
      exact absurd (show b ∈ ([] : List Addr) from hb) (by simp)
    refine codeAny_mono (F (hidT s₁.heap H) s₁ H (.ref a) a ns (.dat (.bool true)) (fun v _ => v = .bl true) en (bd s₁ _) rfl hS ⟨hl, rfl⟩ fun v F' H' g x => by cases x; rfl) fun r s' h => ?_
    cases r with
    | error e => exact h.elim
    | ok fl =>
      cases fl with
      | ret u =>
        obtain ⟨v, H', os, bare, un, hok', rel, q⟩ := h
        have q : v = .bl true := q
        subst q
        have hu : u = Value.bool true := rel
        subst hu
        refine ⟨rfl, OldK.of_keep fun b o e => ?_, os, bare⟩
        by_cases q : H b = none
        · exact un.keep b o e q (fun z => absurd (show b ∈ ([] : List Addr) from z) (by simp)) (by simp)
        · rcases only b with z | ⟨ob, xs, z⟩
          · exact absurd z q
          · have e1 := (hok b _ z).1
            rw [e] at e1
            have e2 := (hok' b _ (un.frzs b ob _ z)).1
            rw [e2, ← e1]
      | next => exact h.elim
      | brk => exact h.elim
      | cont => exact h.elim
  cases hk : K.lookup a with
  | some o =>
    have e := kx a o hk
    rw [ha] at e
    have e2 := Option.some.inj e
    subst e2
    refine go (fun _ => none) (fun _ => .inl rfl) (.inr ⟨_, vs.toArray, _, hk, rfl, rfl, rfl, by rw [List.size_toArray, len]; exact hsz, by simpa using L2.vals_ints hi⟩) (fun b u z => ?_) (fun b z => absurd rfl z) fun z => absurd rfl z
    cases (show (none : Option HO) = some u from z)
  | none =>
    let ob : Obj := { cls := .type "list", data := .seq vs.toArray }
    let H1 : Hp := upd (fun _ => none) a (.frz ob (.lst (ns.map V.int)))
    have off : ∀ b, b ≠ a → H1 b = none := fun b hb => upd_ne hb
    refine go H1 (fun b => ?_) (.inl (.inr ⟨ob, upd_same⟩)) (fun b u z => ?_) (fun b z => ?_) fun _ => hk
    · by_cases hb : b = a
      · subst hb; exact .inr ⟨_, _, upd_same⟩
      · exact .inl (off b hb)
    · by_cases hb : b = a
      · subst hb
        have z' := upd_same.symm.trans z
        cases z'
        exact ⟨ha, by rw [List.length_map]; exact hsz, vs, _, L2.vals_ints hi, ha⟩
      · have z' := (off b hb).symm.trans z
        cases z'
    · by_cases hb : b = a
      · exact hb
      · exact absurd (off b hb) z
theorem walk_law {l : PySem.W.OpenLaw} {k : Nat} {q : Program} {loose : List Str} {XP : (Str → Option Value) → Heap → Prop} {YP : World → Heap → Prop} {d : DefRec} (hn : l.most = some 63) (hdf : d.params.defaults = [])
    (F : ∀ (w : World) (mg : Str → Option Value) (fa : Addr) (h : Heap), YP w h → h.Ns mainGlobals mg → mg d.name = some (.ref fa) →
      ∃ (K : KF) (fd : FuncData), K.In h ∧ (∀ (s : Shared) (u : Value), BindsTo s fd ⟨[u], []⟩ [("script", u)]) ∧ LawAt l.prog w K mg k fa fd fun ns r => ns.length ≤ 63 ∧ r = .dat (.bool true)) :
    PySem.W.WalkO q loose XP YP l.row.toRowW d [] (fun f vs => PySem.call f vs) := by
  refine Att.attach_call hn hdf fun w s0 s1 mg mb fa o pm cd doc a vs ns G Y ho hd hcd hmg hobj hints hlen hg => ?_
  obtain ⟨K, fd, kx, bd, h⟩ := F w mg fa _ Y G.T.g hmg
  exact law_ends kx G.T.g G.T.b G.T.builtins G.T.nolimit hg hobj hints hlen h bd

/-! ### repr of data -/
section
variable {X : Cx} {K : KF} {e a b c : Expr} {m m1 : Bool} {env : List Sl} {d : PyData} {pos p1 : Pos}
theorem call_reprD (hg : X.A.guards = some []) (hu : X.A.units + 80 < cLine) : CallR X (.builtin "repr") (fun xs H Q => ∃ a d, xs = [.ref a] ∧ Dp X.K H (.ref a) d ∧ d.showable = true ∧ d.canLay0 = true ∧ d.depth ≤ 64 ∧ d.shown.length ≤ sizeLine ∧ Q (.str d.shown) H) := by
  intro pins s σ H xs us Q I r h
  obtain ⟨a, d, rfl, hd, h1, h2, h3, h4, q⟩ := h
  obtain ⟨u, rfl, t⟩ := vals1 r
  cases (show u = Value.ref a from t)
  obtain ⟨as, rd⟩ := Dp.reads I d (.ref a) (.ref a) hd rfl
  refine repr_of_reads' (h₀ := s.heap) rd h1 (PyData.noDict_hsm (PyData.hasDict_of_canLay d h2)) hg (by omega) (fun _ _ z => z) (fun h' u tk hk => ?_) h4
  exact ⟨.str _, H, I.kept hk, ⟨_, rfl⟩, q⟩
end
end D3
namespace D3
open PySem PySem.Spec L2 PyProof.Rows

/-! ### the program's own exceptions: class ModelError(ValueError), its __init__ -/
abbrev meA (z : Nat → Pos) : Arguments := { posonlyargs := [], args := [{ arg := "self", annotation := none, pos := z 10 }, { arg := "at", annotation := none, pos := z 11 }], vararg := none, kwonlyargs := [], kw_defaults := [], kwarg := none, defaults := [] }
abbrev meC (z : Nat → Pos) : Expr := .Call (.Attribute (.Call (.Name "super" (z 0)) [] [] (z 1)) "__init__" (z 2)) [.Name "at" (z 3)] [] (z 4)
abbrev meB (z : Nat → Pos) : List Stmt := [.Expr (meC z) (z 5), .Assign [.Attribute (.Name "self" (z 6)) "at" (z 7)] (.Name "at" (z 8)) (z 9)]
/-- super().__init__(at) is a method's call (it is, by the places of its signs) -/
def MeHe (z : Nat → Pos) : Prop := ∃ pl : Sem Bool, ∀ env : Env, eval (meC z) env = (do
      let ov ← attributeBase (.Call (.Name "super" (z 0)) [] [] (z 1)) "__init__" env (eval (.Call (.Name "super" (z 0)) [] [] (z 1)) env)
      standAt (z 2).atName
      let (f, first) ← holding [ov] (getMethod ov "__init__" pl)
      callWith (z 4) f first (backTo (z 4) (starEach [.Name "at" (z 3)] env)) [])
abbrev meS : Scope := { kind := .function, names := [("self", .local), ("at", .local), ("__class__", .free), ("super", .globalImplicit)], isGenerator := false, isCoroutine := false, more := [] }
structure MeTxt (P : Program) (K : KF) (mg : Str → Option Value) (M fI cc cda : Addr) (fd : FuncData) (z : Nat → Pos) : Prop where
  fn : ∃ (oc : Value) (od : Option Addr) (dV kV doc pm : Value) (an : Option Addr) (ct : Value) (osl : Array (Option Value)),
    K.lookup fI = some ⟨oc, od, .func fd, osl⟩ ∧ fd = (PySem.W.ksFn "__init__" "ModelError.__init__" (meA z) (meB z) meS dV kV doc pm an (.ref cda) ct cc)
  cd : PySem.W.codeIn K (.ref cda) "ModelError.__init__" = true
  code : ∃ (ccl : Value) (cdd : Option Addr) (vs : Array Value) (ccs : Array (Option Value)) (file : Str) (tf : Tok), K.lookup cda = some ⟨ccl, cdd, .fields vs, ccs⟩ ∧ vs[2]? = some (.str file tf) ∧ ((P.main.file : Str) == file) = true
  cell : ∃ (cl : Value) (cld : Option Addr) (csl : Array (Option Value)), K.lookup cc = some ⟨cl, cld, .cell (some (.ref M)), csl⟩
  cls : ∃ cdM, PySem.W.clsIn K M = some cdM
  he : MeHe z
  op : PySem.W.nsIn K cStatics "thirdparty.any" = some none
  sup : mg "super" = none
  top : (P.main.scope.names.lookup ("super" : Str)).isSome = false
/-- a class below ModelError -/
structure MeC (K : KF) (M C : Addr) : Prop where
  ox : OexC K C
  no : PySem.W.findIn K (.ref C) "at" = some none
  sup : PySem.W.ks_superIn K C M "__init__" = some (some (.builtin "ValueError.__init__"))
  sub : PySem.W.mroIn K C (.ref M) = some true
  ve : PySem.W.subIn K (.ref C) (.type "ValueError") = some true
def spMe (K : KF) (M : Addr) : Sp := fun vs H Q _ => ∃ a C v, vs = [.ref a, v] ∧ MeC K M C ∧ H a = some (exo a C none) ∧ ∀ dx, H dx = none → dx ≠ a → Q .non (upd (upd H dx (exd dx [("at", v)])) a (exo a C (some dx)))
theorem mw_call {prog : Program} {w : World} {A : Around} {E : Value → Shared → Prop} {h : Heap} {g : Array GenState} {d : Drawn} {t : Nat} {os : OsState} {nm q : Str} {C N u e t0 : Addr} {bs bm : List Value} {hdct : Bool} {sn : List Str} {sub : List Value} {ab : Bool} {col : Option Bool} {dd : Option Addr} {k0 k1 k2 k3 k5 : Option Value} {rest : List Value} {Q : Value → Shared → Prop}
    (hC : h.get? C = some (excClassObj nm q C N bs bm hdct sn sub ab col dd k0 k1 k2 k3 k5 "ValueError.__new__")) (he : h.get? e = some (HandSPX.excO C t0)) (hu : h.get? u = some (PySem.W.kxs_mw "ValueError.__init__" e)) (hrest : rest.length ≤ sizeLine)
    (hq : ∀ h' t1, (∀ b o, b ≠ e → h.get? b = some o → h'.get? b = some o) → h'.get? e = some (HandSPX.excO C t1) → Q .none ⟨h', g, d, t, os⟩) :
    wpAny (model prog w) A (call (.ref u) rest) Q E ⟨h, g, d, t, os⟩ := by
  refine wpAny_call (codeAny_of_tree ?_)
  show wpAny _ A.in1 (callAny (.ref u) ⟨rest, []⟩) _ _ _
  simp only [callAny]
  refine wpAny_bind (wpAny_load hu ?_)
  simp only [PySem.W.kxs_mw, show (Value.type "method-wrapper" == Value.type "method" || Value.type "method-wrapper" == Value.type "builtin_function_or_method" || Value.type "method-wrapper" == Value.type "method-wrapper") = true by decide, if_true]
  refine PySem.W.KFB.if_so (by decide) ?_
  refine wpAny_bind (PySem.W.check_bound_init F.excBase_ValueError.toExcCallFacts hC he rfl ?_)
  refine wpAny_bind (wpAny_pure (wpAny_pure ?_))
  refine ⟨Code.quiet_builtin _ (by decide +kernel), codeAny_builtin F.excBase_ValueError.initEntry ?_⟩
  rw [Around.under_plainId F.excBase_ValueError.init.plain _]
  refine PySem.W.exc_init_tree (cls := .ref C) (t0 := t0) (dv := none) (c2 := .none) (c3 := .none) (b4 := .bool false) he hrest fun h' k e' _ => hq h' _ k e'
theorem boot_super : bootBuiltins "super" = some (.type "super") := by decide +kernel
theorem me_init {P : Program} {w : World} {K : KF} {mg : Str → Option Value} {base : Heap} {CX : CXT} {k : Nat} {M fI cc cda : Addr} {fd : FuncData} {z : Nat → Pos} (T : MeTxt P K mg M fI cc cda fd z) : FnOk P w K mg base CX k fI fd ["self", "at"] (spMe K M) := by
  refine ⟨fun vs H Q E ⟨a, C, v, e, _⟩ => by rw [e]; rfl, fun A outer s H args us vs Q E hr e0 hb r hsp => ?_⟩
  obtain ⟨a, C, v, rfl, MC, ea, hQ⟩ := hsp
  obtain ⟨u, rfl, rv⟩ : ∃ u, us = [.ref a, u] ∧ RelV v u := by
    cases r with
    | cons r1 r2 =>
      cases r2 with
      | cons r2 r3 =>
        cases r3
        cases r1
        exact ⟨_, rfl, r2⟩
  obtain ⟨oc, od, dV, kV, doc, pm, an, ct, osl, lk, efd⟩ := T.fn
  obtain ⟨pl, he⟩ := T.he
  subst efd
  obtain ⟨ccl, cdd, vs, ccs, file, tf, lc, hvs, hfile⟩ := T.code
  obtain ⟨cl, cld, csl, lcell⟩ := T.cell
  obtain ⟨cdM, hM⟩ := T.cls
  have KX : K.In s.heap := e0.mod.kin.keeps fun b o e => (e0.bs b o e).1
  have lim : s.heap.NoLimit := e0.mod.nolimit.keeps fun b o e => (e0.bs b o e).1
  have glob : s.heap.Ns mainGlobals mg := e0.mod.glob.at fun o e => (e0.bs _ o e).1
  obtain ⟨mb, bn, bb⟩ := e0.mod.blt
  have bnS : s.heap.Ns builtinsNs mb := bn.at fun o e => (e0.bs _ o e).1
  obtain ⟨nm, q, N, bs, bm, sn, sub, ab, col, dd, j0, j1, j2, j3, j5, hC, hbm⟩ := MC.ox.cls
  have hcl : PySem.W.clsIn K C = some { name := nm, bases := bs, mro := .ref C :: bm, ns := N, qualname := q, hasDict := true, slotNames := sn, subclasses := sub, abstract := ab, collection := col, hasDel := false } := by unfold PySem.W.clsIn; rw [hC] <;> rfl
  obtain ⟨t1, hx⟩ := exo_at e0.hok ea
  have hxL : s.heap.objs.size ≠ a := Nat.ne_of_gt (Heap.lt_size hx)
  refine PySem.ks_codeAny_call_defAt (binds := [("self", .ref a), ("at", u)]) hr.depth (KX _ _ lk) rfl lim (PySem.W.codeRec_of KX T.cd) rfl hb (show ∀ x ∈ meS.names, x.2 ≠ .cell by decide) (by intro y hy; simp only [List.mem_cons, List.not_mem_nil, or_false] at hy; rcases hy with rfl | rfl <;> rfl) (fun h0 hns hk => ?_) rfl rfl rfl
  have K0 : K.In h0 := KX.keeps hk
  have hx0 := hk _ _ hx
  have hvS : ([("self", Value.ref a), ("at", u)] : List (Str × Value)).reverse.lookup ("self" : Str) = some (.ref a) := rfl
  have hvA : ([("self", Value.ref a), ("at", u)] : List (Str × Value)).reverse.lookup ("at" : Str) = some u := rfl
  obtain ⟨oM, hM1, hM2⟩ : ∃ oM, h0.get? M = some oM ∧ oM.data = .cls cdM := by
    unfold PySem.W.clsIn at hM
    split at hM
    · rename_i c d cd' sl ho
      cases hM
      exact ⟨_, K0 _ _ ho, rfl⟩
    · cases hM
  have I0 : PySem.W.InstAt h0 a ({ cls := .ref C, dict := none, data := .fields #[.ref t1, .none, .none, .none, .bool false, .none] } : Obj) C none := ⟨hx0, rfl, rfl, trivial⟩
  refine PySem.ks_wpAt_execs_cons (PySem.ks_wpAt_Expr_any (PySem.ks_wpAt_MethodCall (pl := pl) ?_ (he _)))
  refine PySem.ks_wpAt_super_base rfl rfl (by decide) rfl (K0 _ _ lk) rfl rfl rfl (K0 _ _ lc) rfl hvs hfile T.top ?_
  refine PySem.W.ks_loadName_global rfl rfl (PySem.Calls.loadGlobal_builtin (glob.at fun o e => hk _ o e) T.sup (bnS.at fun o e => hk _ o e) ((bb _ (by decide +kernel)).trans boot_super) ⟨rfl, ?_⟩)
  refine wpAny_loadName_free rfl rfl rfl ⟨_, K0 _ _ lcell, rfl⟩ ?_
  refine wpAny_loadName_local rfl rfl hns hvS ?_
  refine PySem.ks_wpAny_isType_cls hM1 hM2 ⟨rfl, ?_⟩
  refine PySem.ks_wpAny_call_super hM1 hM2 hx0 rfl (fun c e => by cases e) (PySem.W.looks_mroIn K0 MC.sub) (fun h1 e1 hk1 => ?_)
  have K1 : K.In h1 := K0.keeps hk1
  have I1 : PySem.W.InstAt h1 a ({ cls := .ref C, dict := none, data := .fields #[.ref t1, .none, .none, .none, .bool false, .none] } : Obj) C none := ⟨hk1 _ _ hx0, rfl, rfl, trivial⟩
  have hsup : PySem.W.alongIn K "__init__" ((((Value.ref C) :: bm).dropWhile (· != .ref M)).drop 1) = some (some (.builtin "ValueError.__init__")) := by
    have := MC.sup
    unfold PySem.W.ks_superIn at this
    rw [hcl] at this
    exact this
  have hM1r : PySem.W.Looks (model P w) h1 (mroOf (.ref C)) (.ref C :: bm) := fun A Q E s k q => wpAny_bind ((PySem.W.looks_clsIn K1 hcl) A _ E s k (wpAny_pure q))
  refine PySem.W.kxs_getMethod PySem.W.kxs_ValueError e1 (PySem.W.looks_opaque K1 T.op) hM1r rfl K1 hsup (I1.type.andThen (PySem.W.looks_subIn K1 MC.ve)) (PySem.W.ks_ne K0 I0 hcl) (by decide) ?_
  have hk2 : ∀ b o, h1.get? b = some o → (h1.push (PySem.W.kxs_mw "ValueError.__init__" a)).get? b = some o := fun b o e => Heap.get?_push_of_some _ e
  have hu2 : (h1.push (PySem.W.kxs_mw "ValueError.__init__" a)).get? h1.objs.size = some (PySem.W.kxs_mw "ValueError.__init__" a) := Heap.get?_push_at rfl rfl
  generalize h1.push (PySem.W.kxs_mw "ValueError.__init__" a) = h2 at hk2 hu2
  have K2 : K.In h2 := K1.keeps hk2
  have kk2 : ∀ b o, s.heap.get? b = some o → h2.get? b = some o := fun b o e => hk2 b o (hk1 b o (hk b o e))
  have hns2 := hns.at fun o e => hk2 _ o (hk1 _ o e)
  refine PySem.W.kxs_callWith (i := "ValueError.__init__") (x := a) rfl (PySem.Calls.evalArgs_plain ?_)
  refine PySem.Calls.spliced_cons (wpAny_Name (wpAny_loadName_local rfl rfl hns2 hvA ?_) (by decide))
  refine PySem.Calls.spliced_nil ⟨hu2, ?_⟩
  refine mw_call (K2 _ _ hC) (t0 := t1) (kk2 _ _ hx) hu2 (by show 1 ≤ sizeLine; rw [sizeLine_eq]; omega) fun h3 t3 k3 hx3 => ?_
  show PySem.wpAt _ _ _ (execs _ _) _ _ _
  have hns3 := hns2.at fun o e => k3 _ o hxL e
  have K3 : K.In h3 := fun b o e => k3 b o (fun z => by
    subst z
    have y := K2 _ _ e
    rw [kk2 _ _ hx] at y
    have z1 := K0 _ _ e
    have n0 := (e0.bs b o (e0.mod.kin _ _ e)).2
    rw [ea] at n0
    cases n0) (K2 _ _ e)
  refine PySem.ks_wpAt_execs_cons (PySem.wpAt_of_wpAny (plainObj_wpAny_Assign_Attribute ?_))
  refine wpAny_Name (wpAny_loadName_local rfl rfl hns3 hvA ?_) (by decide)
  refine wpAny_Name (wpAny_loadName_local rfl rfl hns3 hvS ?_) (by decide)
  refine PySem.W.set_plain K3 (ox := HandSPX.excO C t3) (od := none) ⟨hx3, rfl, rfl, trivial⟩ MC.ox.sa ?_
  refine HandSPX.exc_osa K3 hx3 hcl (show HandSPX.refsVE (.ref C :: bm) = true from hbm) rfl MC.no (fun h4 tk4 dx k4 dn dne hx4 hn4 => ?_)
  refine PySem.wpAt_of_wpAny (wpAny_execs_nil ?_)
  have dnS : s.heap.objs.size ≤ dx := by
    have z1 : s.heap.objs.size ≤ h3.objs.size := by
      obtain ⟨oL, es, ep, hL, _⟩ := hns3
      exact Nat.le_of_lt (Heap.lt_size hL)
    exact Nat.le_trans z1 dn
  have k : ∀ b o, b ≠ a → s.heap.get? b = some o → h4.get? b = some o := fun b o hb e => k4 b o hb (k3 b o hb (kk2 b o e))
  have hnd : H dx = none := e0.hok.fresh dnS
  have nd : ∀ {b : Addr} {o : Obj}, s.heap.get? b = some o → b ≠ dx := fun {b o} q => Nat.ne_of_lt (Nat.lt_of_lt_of_le (Heap.lt_size q) dnS)
  have na : ∀ {b : Addr}, H b = none → b ≠ a := fun {b} n z => by
    rw [z, ea] at n
    cases n
  refine ⟨.non, upd (upd H dx (exd dx [("at", v)])) a (exo a C (some dx)), rfl, e0.bare, {
    keep := fun b o q n _ _ => k b o (na n) q
    slot := fun b o q n _ _ => ⟨o.slots, k b o (na n) q⟩
    free := fun b o q n _ => by rw [upd_ne (na n), upd_ne (nd q)]; exact n
    there := fun b o q _ => by
      by_cases hb : b = a
      · exact ⟨_, by rw [hb]; exact hx4⟩
      · exact ⟨o, k b o hb q⟩
    tups := fun b xs q => by rw [upd_ne (at_ne ea q exo_tup), upd_ne (ne_of_none q hnd)]; exact q
    frzs := fun b o v q => by rw [upd_ne (at_ne ea q exo_frz), upd_ne (ne_of_none q hnd)]; exact q
    tbls := fun b ps q => ⟨#[], by rw [upd_ne (at_ne ea q exo_tbl), upd_ne (ne_of_none q hnd), q]; simp⟩ }, fun b o q => ?_, rfl, hQ dx hnd dne⟩
  by_cases hb : b = a
  · subst hb
    rw [upd_same] at q
    cases q
    exact exo_ok hx4
  · rw [upd_ne hb] at q
    by_cases hd : b = dx
    · subst hd
      rw [upd_same] at q
      cases q
      exact exd_ok hn4 (relO_put (fs := []) rv fun g => True.intro)
    · rw [upd_ne hd] at q
      exact (e0.hok b o q).stay (fun c v hc z => k c v (by
          rcases hc with hc | hc
          · rw [hc]
            exact hb
          · exact at_ne ea hc exo_own) z)
        (fun c hc => by rw [upd_ne (at_ne ea hc exo_own), upd_ne (ne_of_none hc hnd)]; exact hc) (fun c xs hc => by rw [upd_ne (at_ne ea hc exo_tup), upd_ne (ne_of_none hc hnd)]; exact hc)

/-! ### the classes by their names -/
/-- a class of errors: x -/
structure ErC (K : KF) (mg : Str → Option Value) (fI : Addr) (x : Str) : Prop where
  c : MeC K (He.ga K "ModelError") (He.ga K x)
  iC : PySem.W.findIn K (.ref (He.ga K x)) "__init__" = some (some (.ref fI))
  hm : mg x = some (.ref (He.ga K x))
  exm : PySem.W.exmOne K (.ref (He.ga K x)) (.ref (He.ga K "ModelError")) = some true
  me : PySem.W.kitOne K (.ref (He.ga K x)) (.ref (He.ga K "ModelError")) = some true
  ic : ExcC K (He.ga K x)
  xf : XfC K (He.ga K x)
  exs : PySem.W.exmOne K (.ref (He.ga K x)) (.ref (He.ga K x)) = some true
structure Er (P : Program) (w : World) (K : KF) (mg : Str → Option Value) (base : Heap) (xs : List Str) : Prop where
  ex : ∃ (fI : Addr) (fd : FuncData), FnOk P w K mg base CX0 0 fI fd ["self", "at"] (spMe K (He.ga K "ModelError")) ∧ Binds K fd ["self", "at"] [] ∧ PySem.W.typeIn K (.ref fI) = some (.type "function") ∧ ∀ x ∈ xs, ErC K mg fI x
  hM : mg "ModelError" = some (.ref (He.ga K "ModelError"))
  is : ∀ x ∈ xs, ∀ y ∈ xs, PySem.W.kitOne K (.ref (He.ga K x)) (.ref (He.ga K y)) = some (decide (x = y))
abbrev cxE (E : XK) : WX := fun cls d _ H => E cls d H
section
variable {X : Cx} {K : KF} {e a b c : Expr} {es : List Expr} {m m1 m2 m3 : Bool} {env : List Sl} {d d1 d2 : PyData} {ds rs : List PyData} {pos p p1 p2 p3 p4 : Pos} {x : Str} {i j : Int} {E : DE} {st : Stmt} {rest : List Stmt} {W : WX} {k n : Nat} {xs : List Str}
theorem raise_fin {F0 H0 F1 H1 : Hp} {σ : St} {a dx : Addr} {C : Addr} {v : V} {ep : List Sl → Prop} (ok : Ok K F0 H0 env σ F1 H1) (hep : ep env) (ha : H1 a = none) (hdx : upd H1 a (exo a C none) dx = none) (hne : dx ≠ a) (hv : Dq K F1 v d) (r : ∀ env σ v dd F H, ep env → Ok K F0 H0 env σ F H → H dd = some (.xd [("at", v)]) → Dq K F v d → W (.ref C) (some dd) σ H) :
    W (.ref C) (some dx) σ (upd (del (upd (upd (upd H1 a (exo a C none)) dx (exd dx [("at", v)])) a (exo a C (some dx))) a) dx (.xd [("at", v)])) := by
  have h1 : H1 dx = none := by rw [← hdx, upd_ne hne]
  have ex : Ex H1 (upd (del (upd (upd (upd H1 a (exo a C none)) dx (exd dx [("at", v)])) a (exo a C (some dx))) a) dx (.xd [("at", v)])) := fun b o e => by
    have hb1 : b ≠ a := ne_of_none e ha
    have hb2 : b ≠ dx := ne_of_none e h1
    rw [upd_ne hb2, del_ne hb1, upd_ne hb1, upd_ne hb2, upd_ne hb1]
    exact e
  exact r env σ v dx F1 _ hep (ok.grow (Grow.junk ok.g.fh ex)) upd_same hv
theorem s_raise {pr : Pos} {ep : List Sl → Prop} (ER : Er X.prog X.w X.K X.mg X.base xs) (hx : x ∈ xs) (hr : Room 2 X.A) (tk : Takes X W) (he : PE X e (tE X.K true env d)) (hep : ep env) (h : E.rt (.exc (He.ga X.K x) d ep W))
    (hc : X.calm = true := by rfl) (hg : Gl X x := by rfl) (hdb : (x == ("__debug__" : Str)) = false := by decide) (ns : NS X e := by exact fun _ => rfl) : PS X (.Raise (some (.Call (.Name x p) [e] [] pos)) none pr) (tS X.K env E) := by
  obtain ⟨⟨fI, fd, FI, hb, tI, hC⟩, _, _⟩ := ER
  have C := hC x hx
  refine psmono (ps_raise hc tk (pmk_oex (pos := pos) (p := p) C.c.ox C.iC tI (FI.mono (Nat.zero_le 1)) hr hb .nil (fun _ _ _ _ _ _ _ h => h.elim) hg C.hm (a_cons he a_nil (ns [])) hdb (ns []) rfl)) fun D σ H ⟨F0, H0, F, ok, nx, bk, ct, rt⟩ => ?_
  refine ⟨F0, H0, F, ok, fun vs F1 H1 g1 x1 => ?_⟩
  cases x1 with
  | cons x1 x2 =>
    cases x2
    rename_i v
    refine ⟨by simp, fun a ha => ⟨a, _, v, rfl, C.c, upd_same, fun dx hdx hne => ⟨rfl, dx, [("at", v)], upd_same, ?_, ?_, ?_⟩⟩⟩
    · rw [upd_ne hne]; exact upd_same
    · rw [← hdx, upd_ne hne]
    · exact raise_fin (ok.grow g1) hep ha hdx hne x1 (rt _ h)
end
/-! ### defs that may raise -/
def spX (K : KF) (n : Nat) (R : WX → List PyData → RS → Prop) : Sp := fun vs H Q E => ∃ F ds r, Ex F H ∧ DqAll K F vs ds ∧ ds.length = n ∧ R (cxE E) ds r ∧ RtOk K F H r Q
section
variable {P : Program} {w : World} {K : KF} {mg : Str → Option Value} {base : Heap} {x qual : Str} {st : Stmt} {f : Addr} {fd : FuncData} {N ps : List Str} {k : Nat} {R : WX → List PyData → RS → Prop}
abbrev cx1 (P : Program) (w : World) (K : KF) (mg : Str → Option Value) (base : Heap) (N : List Str) (qual : Str) (st : Stmt) (f : Addr) (cdv : Value) (A : Around) (outer : List Env) (s : Shared) (H : Hp) (E : XK) : Cx := cxOf (L2.CX P w) P w K mg base N qual (defScope st) f cdv A outer s H E
theorem def_okX (F : Fn K x qual st f fd) (S : FnScope N ps (defScope st))
    (hb : ∀ (cdv : Value) (A : Around) (outer : List Env) (s : Shared) (H : Hp) (E : XK) (ds : List PyData) (r : RS), Room k (A.deeper (PyProof.Rows.envOfC qual (defScope st) s.heap.objs.size f cdv)) → ds.length = ps.length → R (cxE E) ds r →
      Takes (cx1 P w K mg base N qual st f cdv A outer s H E) (cxE E) → PassesOwn (model P w) (cx1 P w K mg base N qual st f cdv A outer s H E).A (cx1 P w K mg base N qual st f cdv A outer s H E).env (cx1 P w K mg base N qual st f cdv A outer s H E).xe →
      PSs (cx1 P w K mg base N qual st f cdv A outer s H E) (defBody st) (tS K (env0 N.length ds) ⟨fun _ => r = .dat .none, (· = r), fun _ => False, fun _ => False⟩)) : FnOk P w K mg base (L2.CX P w) (k + 1) f fd ps (spX K ps.length R) := by
  refine FunD.ok F S (fun vs H Q E ⟨F, ds, r, e, h, hl, _⟩ => by rw [h.length, hl]) (fun cdv A outer s H vs Q E hr ⟨F, ds, r, e, h, hl, hR, hQ⟩ => ?_)
  refine ⟨_, hb cdv A outer s H E ds r hr hl hR (takes_of rfl rfl rfl rfl) (passes_of rfl), F, H, F, ok_start N e h, fun env' σ' F' H' hr' ok' => ?_, fun _ _ _ _ z => z.elim, fun _ _ _ _ z => z.elim, fun r' hr' => ?_⟩
  · subst hr'
    exact hQ .non F' H' ok'.g .non
  · subst hr'
    exact hQ
end
def DefX (P : Program) (w : World) (K : KF) (mg : Str → Option Value) (base : Heap) (k : Nat) (x : Str) (sp : Sp) : Prop := ∃ f fd ps, FnOk P w K mg base (L2.CX P w) k f fd ps sp ∧ mg x = some (.ref f) ∧ PySem.W.keepIn K (.ref f) = true ∧ Binds K fd ps []
theorem DefX.up {P : Program} {w : World} {K : KF} {mg : Str → Option Value} {base : Heap} {j k : Nat} {x : Str} {sp : Sp} (h : DefX P w K mg base j x sp) (l : j ≤ k) : DefX P w K mg base k x sp := by
  obtain ⟨f, fd, ps, a, b⟩ := h
  exact ⟨f, fd, ps, a.mono l, b⟩
theorem At.defX {P : Program} {w : World} {K : KF} {mg : Str → Option Value} {base : Heap} {k : Nat} {x : Str} {st : Stmt} {ps : List Str} {sp : Sp} (a : At K mg x st ps) (h : ∀ f fd, Fn K x x st f fd → FnOk P w K mg base (L2.CX P w) k f fd ps sp) : DefX P w K mg base k x sp := by
  obtain ⟨f, fd, F, hm, hb⟩ := a.ex
  exact ⟨f, fd, ps, h f fd F, hm, F.kp, hb⟩
section
variable {X : Cx} {K : KF} {e a b c : Expr} {es : List Expr} {m m1 m2 m3 : Bool} {env : List Sl} {d d1 d2 : PyData} {ds rs : List PyData} {pos p p1 p2 p3 p4 : Pos} {x : Str} {i j : Int} {E : DE} {st : Stmt} {rest : List Stmt} {W : WX} {k n : Nat} {xs : List Str} {R : WX → List PyData → RS → Prop} {ep : List Sl → Prop}
theorem run_fnX {f : Addr} {fd : FuncData} {ps : List Str} {sp : Sp} {pins : List (Addr × Obj)} {σ : St} {H : Hp} {s : Shared} {Q : VK} {us : List Value} {vs : List V} (F : FnOk X.prog X.w X.K X.mg X.base (L2.CX X.prog X.w) k f fd ps sp) (hr : Room k X.A) (hb : Binds X.K fd ps []) (tk : Takes X W)
    (I : Inv X pins σ H s) (r : Vals vs us) (h : sp vs H Q (fun c d H' => W c d σ H')) : wpAny (model X.prog X.w) X.A (call (.ref f) us) (EP X pins σ Q) X.xe s := by
  have hl : us.length = ps.length := by rw [← r.length]; exact F.len _ _ _ _ h
  refine wpAny_call (codeAny_mono (F.run X.A X.stack s H ⟨us, []⟩ us vs Q _ hr I.env0 (by have := hb s us I.kIn (by simpa using hl); simpa using this) r h) fun r s' hq => ?_)
  cases r with
  | error er => exact tk _ _ (XE.of_call I (fun cls d H' h => h) hq)
  | ok fl =>
    cases fl with
    | ret u => exact I.after hq
    | next => exact False.elim hq
    | brk => exact False.elim hq
    | cont => exact False.elim hq
theorem pe_callX {f : Addr} {fd : FuncData} {ps : List Str} {sp : Sp} {t : TA} (F : FnOk X.prog X.w X.K X.mg X.base (L2.CX X.prog X.w) k f fd ps sp) (hr : Room k X.A) (hg : Gl X x) (hm : X.mg x = some (.ref f)) (hk : PySem.W.keepIn X.K (.ref f) = true) (hb : Binds X.K fd ps []) (tk : Takes X W)
    (ha : PA X (e :: es) t) (hdb : (x == ("__debug__" : Str)) = false := by decide) (he : starEach (e :: es) X.env = (false, eval e X.env) :: starEach es X.env := by rfl) (hpl : (backTo pos (starEach es X.env)).any (·.1) = false := by rfl) :
    PE X (.Call (.Name x p) (e :: es) [] pos) (fun σ H Q => t σ H fun vs H1 => sp vs H1 Q (fun c d H' => W c d σ H')) := by
  refine ⟨fun pins s σ H Q I h => ?_⟩
  refine wpAny_Call_Name_kw (ld_glob I hg hm ?_ hdb)
  refine PySem.W.callWith_K (h₀ := X.base) I.ok.mod.kin hk (thn (ha.run pos pins s σ H _ I h) fun us s1 ⟨vs, H1, I1, r, q⟩ => ⟨I1.kIn, ?_⟩) he hpl
  exact run_fnX F hr hb tk I1 r q
/-- a call that raises: whatever is wanted of its value -/
def tR (K : KF) (env : List Sl) (C : Addr) (d : PyData) (W : WX) : TE := fun σ H Q => ∃ F0 H0 F, Ok K F0 H0 env σ F H ∧ ∀ v dd F' H', Grow F H F' H' → H' dd = some (.xd [("at", v)]) → Dq K F' v d → W (.ref C) (some dd) σ H'
theorem r_call {C : Addr} (D : DefX X.prog X.w X.K X.mg X.base k x (spX X.K n R)) (hr : Room k X.A) (tk : Takes X W) (ha : PA X (e :: es) (tA X.K true env ds)) (hn : ds.length = n) (hR : ∀ W', R W' ds (.exc C d (fun _ => True) W')) (hg : Gl X x := by rfl) (hdb : (x == ("__debug__" : Str)) = false := by decide)
    (he : starEach (e :: es) X.env = (false, eval e X.env) :: starEach es X.env := by rfl) (hpl : (backTo pos (starEach es X.env)).any (·.1) = false := by rfl) : PE X (.Call (.Name x p) (e :: es) [] pos) (tR X.K env C d W) := by
  obtain ⟨f, fd, ps, Fo, hm, hk, hb⟩ := D
  exact pmono (pe_callX Fo hr hg hm hk hb tk ha hdb he hpl) fun σ H Q ⟨F0, H0, F, ok, q⟩ => ⟨F0, H0, F, ok, fun vs F1 H1 g1 x1 => ⟨F1, ds, _, g1.fh, x1, hn, hR _, fun env' σ' v dd F' H' _ ok' h1 h2 => q v dd F' H' (g1.trans ok'.g) h1 h2⟩⟩
/-- own lists among the arguments -/
theorem r_callH {C : Addr} (D : DefX X.prog X.w X.K X.mg X.base k x (spX X.K n R)) (hr : Room k X.A) (tk : Takes X W) (ha : PA X (e :: es) (tA X.K false env ds)) (hn : ds.length = n) (hs : scalD d = true) (hR : ∀ W', R W' ds (.exc C d (fun _ => True) W')) (hg : Gl X x := by rfl) (hdb : (x == ("__debug__" : Str)) = false := by decide)
    (he : starEach (e :: es) X.env = (false, eval e X.env) :: starEach es X.env := by rfl) (hpl : (backTo pos (starEach es X.env)).any (·.1) = false := by rfl) : PE X (.Call (.Name x p) (e :: es) [] pos) (tR X.K env C d W) := by
  obtain ⟨f, fd, ps, Fo, hm, hk, hb⟩ := D
  exact pmono (pe_callX Fo hr hg hm hk hb tk ha hdb he hpl) fun σ H Q ⟨F0, H0, F, ok, q⟩ => ⟨F0, H0, F, ok, fun vs F1 H1 g1 x1 => ⟨H1, ds, _, Ex.refl _, x1, hn, hR _, fun env' σ' v dd F' H' _ ok' h1 h2 => q v dd F1 H' (g1.trans (Grow.junk g1.fh ok'.g.hh)) h1 (h2.scal hs)⟩⟩
/-- a call that gives a value -/
theorem x_call (D : DefX X.prog X.w X.K X.mg X.base k x (spX X.K n R)) (hr : Room k X.A) (tk : Takes X W) (ha : PA X (e :: es) (tA X.K true env ds)) (hn : ds.length = n) (hR : ∀ W', R W' ds (.dat d)) (hg : Gl X x := by rfl) (hdb : (x == ("__debug__" : Str)) = false := by decide)
    (he : starEach (e :: es) X.env = (false, eval e X.env) :: starEach es X.env := by rfl) (hpl : (backTo pos (starEach es X.env)).any (·.1) = false := by rfl) : PE X (.Call (.Name x p) (e :: es) [] pos) (tE X.K m env d) := by
  obtain ⟨f, fd, ps, Fo, hm, hk, hb⟩ := D
  exact pmono (pe_callX Fo hr hg hm hk hb tk ha hdb he hpl) fun σ H Q ⟨F0, H0, F, ok, q⟩ => ⟨F0, H0, F, ok, fun vs F1 H1 g1 x1 => ⟨F1, ds, .dat d, g1.fh, x1, hn, hR _, fun v F2 H2 g2 x2 => q v F2 H2 (g1.trans g2) (seldn g2.fh x2)⟩⟩
theorem xo_call (D : DefX X.prog X.w X.K X.mg X.base k x (spX X.K n R)) (hr : Room k X.A) (tk : Takes X W) (ha : PA X (e :: es) (tA X.K true env ds)) (hn : ds.length = n) (hR : ∀ W', R W' ds (.own rs)) (hg : Gl X x := by rfl) (hdb : (x == ("__debug__" : Str)) = false := by decide)
    (he : starEach (e :: es) X.env = (false, eval e X.env) :: starEach es X.env := by rfl) (hpl : (backTo pos (starEach es X.env)).any (·.1) = false := by rfl) : PE X (.Call (.Name x p) (e :: es) [] pos) (tO X.K env rs) := by
  obtain ⟨f, fd, ps, Fo, hm, hk, hb⟩ := D
  exact pmono (pe_callX Fo hr hg hm hk hb tk ha hdb he hpl) fun σ H Q ⟨F0, H0, F, ok, q⟩ => ⟨F0, H0, F, ok, fun vs F1 H1 g1 x1 => ⟨F1, ds, .own rs, g1.fh, x1, hn, hR _, fun p vs2 F2 H2 g2 h1 h2 h3 h4 => q p vs2 F2 H2 (g1.trans g2) (g1.hh.back h1) h2 h3 h4⟩⟩
theorem tR_to {F0 H0 F H : Hp} {σ : St} {C : Addr} {Q : VK} (ok : Ok K F0 H0 env σ F H) (hep : ep env) (r : RtOk K F0 H0 (.exc C d ep W) Q) {Q' : VK} : tR K env C d W σ H Q' :=
  ⟨F0, H0, F, ok, fun v dd F' H' g h1 h2 => r env σ v dd F' H' hep (ok.grow g) h1 h2⟩
/-- statements that end by such a call -/
theorem s_rexpr {C : Addr} (he : PE X e (tR X.K env C d W)) (hep : ep env) (h : E.rt (.exc C d ep W)) (hs : swapsWith e none pos.line X.env = pure false := by rfl) : PS X (.Expr e pos) (tS X.K env E) :=
  psmono (ps_expr he hs) fun D σ H ⟨F0, H0, F, ok, nx, bk, ct, rt⟩ => tR_to ok hep (rt _ h)
theorem s_rret {C : Addr} (he : PE X e (tR X.K env C d W)) (hep : ep env) (h : E.rt (.exc C d ep W)) : PS X (.Return (some e) pos) (tS X.K env E) :=
  psmono (ps_ret he) fun D σ H ⟨F0, H0, F, ok, nx, bk, ct, rt⟩ => tR_to ok hep (rt _ h)
end
end D3
namespace D3
open PySem PySem.Spec L2 PyProof.Rows

/-! ### try .. except ModelError as e -/
theorem Ok.setExc {K : KF} {F0 H0 F H : Hp} {env : List Sl} {σ : St} (o : Ok K F0 H0 env σ F H) {i : Nat} {a dd : Addr} {v : V} {d : PyData} (hx : H dd = some (.xd [("at", v)])) (hd : Dq K F v d) : Ok K F0 H0 (env.set i (.exc a dd d)) (σ.set i (some (.ref a))) F H where
  g := o.g
  dat := fun j e h => by
    rcases get_set_cases h with ⟨rfl, hl, q⟩ | ⟨ne, q⟩
    · cases q
    · obtain ⟨w, a, b⟩ := o.dat j e q
      exact ⟨w, by rw [List.getElem?_set_ne ne]; exact a, b⟩
  own := fun j e h => by
    rcases get_set_cases h with ⟨rfl, hl, q⟩ | ⟨ne, q⟩
    · cases q
    · obtain ⟨p, vs, a, r⟩ := o.own j e q
      exact ⟨p, vs, by rw [List.getElem?_set_ne ne]; exact a, r⟩
  sep := fun j k ds es p h1 h2 h3 h4 => by
    rcases get_set_cases h1 with ⟨rfl, hl, q⟩ | ⟨ne, q⟩
    · cases q
    · rcases get_set_cases h2 with ⟨rfl, hl, q'⟩ | ⟨ne', q'⟩
      · cases q'
      · rw [List.getElem?_set_ne ne] at h3
        rw [List.getElem?_set_ne ne'] at h4
        exact o.sep j k ds es p q q' h3 h4
  scr := fun j e h => by
    rcases get_set_cases h with ⟨rfl, hl, q⟩ | ⟨ne, q⟩
    · cases q
    · obtain ⟨p, a, r⟩ := o.scr j e q
      exact ⟨p, by rw [List.getElem?_set_ne ne]; exact a, r⟩
  exc := fun j a2 dd2 e h => by
    rcases get_set_cases h with ⟨rfl, hl, q⟩ | ⟨ne, q⟩
    · cases q
      exact ⟨v, by rw [List.getElem?_set_self (by rw [o.len]; exact hl)], hx, hd⟩
    · obtain ⟨p, a, r⟩ := o.exc j a2 dd2 e q
      exact ⟨p, by rw [List.getElem?_set_ne ne]; exact a, r⟩
  len := by rw [List.length_set, List.length_set, o.len]
  tre := by
    obtain ⟨Φ, c, m⟩ := o.tre
    exact ⟨Φ, c, m.setX trivial⟩
section
variable {X : Cx} {K : KF} {env : List Sl} {E : DE} {c : Value} {i : Nat} {body suite : List Stmt} {b₀ : Stmt} {np pos pos' : Pos} {x n : Str}
theorem s_try {ep : List Sl → Prop} {ex : Addr → PyData → Prop} (hN : X.N.Nodup) (hi : X.N[i]? = some n) (hc : Names X x c)
    (hm : ∀ C d, ex C d → PySem.W.exmOne X.K (.ref C) c = some true)
    (hb : ∀ (W : WX) (pn : List (Addr × Obj)) (xe : Value → Shared → Prop), Takes (X.tr pn xe) W → PassesOwn (model X.prog X.w) X.A X.env xe → PSs (X.tr pn xe) body (tS X.K env ⟨E.nx, fun r => E.rt r ∨ ∃ C d, ex C d ∧ r = .exc C d ep W, E.bk, E.ct⟩))
    (hsu : ∀ (C : Addr) (d : PyData) (env' : List Sl) (a dd : Addr) (oe : Obj) (pn : List (Addr × Obj)), ex C d → ep env' → Zc (.ref C) (some dd) oe → (∃ vs, oe.data = .fields vs) →
      PSs (X.suite a ((a, oe) :: pn)) (b₀ :: suite) (tS X.K (env'.set i (.exc a dd d)) ⟨fun e => E.nx (e.set i .no), E.rt, fun e => E.bk (e.set i .no), fun e => E.ct (e.set i .no)⟩))
    (hs : X.stack = X.env :: X.outer := by rfl) (hf : X.env.frame = some X.env.locals := by rfl) (hln : X.env.kindOf n = some .local := by rfl) :
    PS X (.Try body [.ExceptHandler (some (.Name x np)) (some n) (b₀ :: suite) pos'] [] [] pos) (tS X.K env E) := by
  refine psmono (ps_try_as (Wout := fun _ _ _ _ => False) (tb := fun W => tS X.K env ⟨E.nx, fun r => E.rt r ∨ ∃ C d, ex C d ∧ r = .exc C d ep W, E.bk, E.ct⟩)
    (ts := fun a cls d D σ H => ∃ C dd dat env', (cls = .ref C ∧ d = some dd ∧ ex C dat ∧ ep env') ∧ tS X.K (env'.set i (.exc a dd dat)) ⟨fun e => E.nx (e.set i .no), E.rt, fun e => E.bk (e.set i .no), fun e => E.ct (e.set i .no)⟩ D σ H)
    hs hf hN hi hln hc takes0 hb (fun a oe cls d pn hz hd => ⟨fun pins s σ H D I ⟨C, dd, dat, env', ⟨h1, h2, h3, h4⟩, q⟩ => ?_⟩)) fun D σ H ⟨F0, H0, F, ok, nx, bk, ct, rt⟩ => ?_
  · subst h1 h2
    exact (hsu C dat env' a dd oe pn h3 h4 hz hd).run pins s σ H D I q
  · refine ⟨F0, H0, F, ok, nx, bk, ct, fun r hr => ?_⟩
    rcases hr with hr | ⟨C, d, hx, rfl⟩
    · exact rt r hr
    · intro env' σ' v dd F' H' he ok' h1 h2
      refine ⟨true, hm C d hx, fun _ a ha => ⟨C, dd, d, env', ⟨rfl, rfl, hx, he⟩, F0, H0, F', ok'.setExc h1 h2, fun e2 σ2 F2 H2 q2 ok2 => nx _ _ F2 H2 q2 ok2.setNo, fun e2 σ2 F2 H2 q2 ok2 => bk _ _ F2 H2 q2 ok2.setNo, fun e2 σ2 F2 H2 q2 ok2 => ct _ _ F2 H2 q2 ok2.setNo, rt⟩, fun z => by cases z⟩
end
section
variable {X : Cx} {env : List Sl} {i : Nat} {p p1 p2 p3 pos : Pos} {n y : Str} {m : Bool} {a dd C : Addr} {oe : Obj} {pn : List (Addr × Obj)} {d : PyData}
/-- e.at -/
theorem e_excAt (i : Nat) (he : env[i]? = some (.exc a dd d)) (T : XfC X.K C) (hno : PySem.W.findIn X.K (.ref C) "at" = some none) (hz : Zc (.ref C) (some dd) oe) (hf : ∃ vs, oe.data = .fields vs) (hN : X.N[i]? = some n := by rfl) (hv : Vis X.env.scope n := by first | exact .inl rfl | exact .inr (.inl rfl) | exact .inr (.inr rfl))
    (hb : attributeBase (.Name n p) "at" X.env (eval (.Name n p) X.env) = eval (.Name n p) X.env := by rfl) (hd : (n == ("__debug__" : Str)) = false := by decide) (hcd : (n == ("__classdict__" : Str)) = false := by decide) :
    PE (X.suite a ((a, oe) :: pn)) (.Attribute (.Name n p) "at" pos) (tE X.K m env d) :=
  pmono (pe_xf (pn := pn) T hno hz hf (pe_var (X := X.suite a ((a, oe) :: pn)) hN hv hd hcd) hb) fun σ H Q ⟨F0, H0, F, ok, k⟩ => by
    obtain ⟨v, h1, h2, h3⟩ := ok.exc i a dd d he
    exact ⟨.ref a, h1, rfl, rfl, dd, _, v, rfl, h2, rfl, k v F H (Grow.refl ok.g.fh) (seldn ok.g.fh h3)⟩
theorem call_isX {b : Bool} {cv : Addr} (T : ExcC X.K C) (hz : Zc (.ref C) (some dd) oe) (hf : ∃ vs, oe.data = .fields vs) (e : PySem.W.kitOne X.K (.ref C) (.ref cv) = some b) :
    CallR (X.suite a ((a, oe) :: pn)) (.builtin "isinstance") (fun xs H Q => ∃ fs, xs = [.ref a, .ref cv] ∧ H dd = some (.xd fs) ∧ Q (.bl b) H) := by
  intro pins s σ H xs us Q I r h
  obtain ⟨fs, rfl, ea, q⟩ := h
  cases r with
  | cons rx rr =>
    cases rr with
    | cons rt rr =>
      cases rr
      cases rx
      cases rt
      obtain ⟨hget, _⟩ := I.pin (a, oe) (List.mem_append.mpr (.inl List.mem_cons_self))
      obtain ⟨vs, hv⟩ := hf
      have hx : ObjOk X.prog X.w H s.heap dd (.xd fs) := I.hok dd _ ea
      obtain ⟨mA, hns, hr⟩ := hx
      obtain ⟨od, ho, hl⟩ := lookIn_ns hns
      have J : PySem.W.InstAt s.heap a oe C (some od) := ⟨hget, hz.1, by unfold PySem.W.notCls; rw [hv] <;> rfl, by rw [hz.2]; exact ho⟩
      have hcl : (PySem.W.clsIn X.K C).isSome = true := by
        obtain ⟨cd, hc, _⟩ := PySem.W.any_some T.hd
        rw [hc]; rfl
      exact PySem.W.kia_one (PySem.W.kitx_exc hcl T.hg T.hk T.hs T.ha T.hn T.ht T.hm) I.kIn J e (fun z => nomatch z) fun tk => ⟨.bl b, H, I.kept (t' := tk) fun _ _ z => z, rfl, q⟩
/-- isinstance(e, Y) -/
theorem e_excIs {b : Bool} {cv : Addr} (i : Nat) (hm : X.mg "isinstance" = none) (he : env[i]? = some (.exc a dd d)) (T : ExcC X.K C) (hz : Zc (.ref C) (some dd) oe) (hf : ∃ vs, oe.data = .fields vs) (hy : X.mg y = some (.ref cv)) (e : PySem.W.kitOne X.K (.ref C) (.ref cv) = some b)
    (hN : X.N[i]? = some n := by rfl) (hv : Vis X.env.scope n := by first | exact .inl rfl | exact .inr (.inl rfl) | exact .inr (.inr rfl)) (hg : Gl X "isinstance" := by rfl) (hgy : Gl X y := by rfl)
    (hd : (n == ("__debug__" : Str)) = false := by decide) (hcd : (n == ("__classdict__" : Str)) = false := by decide) (hdy : (y == ("__debug__" : Str)) = false := by decide) :
    PE (X.suite a ((a, oe) :: pn)) (.Call (.Name "isinstance" p1) [.Name n p2, .Name y p3] [] pos) (tE X.K m env (.bool b)) :=
  pmono (pe_callB (X := X.suite a ((a, oe) :: pn)) (call_isX (pn := pn) T hz hf e) hg hm PyProof.Rows.boot_isinstance (pa_cons (pe_var hN hv hd hcd) (pa_cons (pe_glob (v := .ref cv) hgy hy rfl hdy) pa_nil))) fun σ H Q ⟨F0, H0, F, ok, k⟩ => by
    obtain ⟨v, h1, h2, h3⟩ := ok.exc i a dd d he
    exact ⟨.ref a, h1, _, rfl, h2, k _ F H (Grow.refl ok.g.fh) (.bl _)⟩
end

/-! ### the errors by their names, in a suite -/
section
variable {X : Cx} {env : List Sl} {i : Nat} {p p1 p2 p3 pos : Pos} {n y q : Str} {m : Bool} {a dd : Addr} {oe : Obj} {pn : List (Addr × Obj)} {d : PyData} {xs : List Str}
theorem e_eAt (i : Nat) (ER : Er X.prog X.w X.K X.mg X.base xs) (hq : q ∈ xs) (hz : Zc (.ref (He.ga X.K q)) (some dd) oe) (hf : ∃ vs, oe.data = .fields vs) (he : env[i]? = some (.exc a dd d) := by rfl) (hN : X.N[i]? = some n := by rfl) (hv : Vis X.env.scope n := by first | exact .inl rfl | exact .inr (.inl rfl) | exact .inr (.inr rfl))
    (hb : attributeBase (.Name n p) "at" X.env (eval (.Name n p) X.env) = eval (.Name n p) X.env := by rfl) (hd : (n == ("__debug__" : Str)) = false := by decide) (hcd : (n == ("__classdict__" : Str)) = false := by decide) :
    PE (X.suite a ((a, oe) :: pn)) (.Attribute (.Name n p) "at" pos) (tE X.K m env d) := by
  obtain ⟨⟨fI, fd, _, _, _, hC⟩, _, _⟩ := ER
  exact e_excAt i he (hC q hq).xf (hC q hq).c.no hz hf hN hv hb hd hcd
theorem e_eIs (i : Nat) (ER : Er X.prog X.w X.K X.mg X.base xs) (hm : X.mg "isinstance" = none) (hq : q ∈ xs) (hy : y ∈ xs) (hz : Zc (.ref (He.ga X.K q)) (some dd) oe) (hf : ∃ vs, oe.data = .fields vs) (he : env[i]? = some (.exc a dd d) := by rfl)
    (hN : X.N[i]? = some n := by rfl) (hv : Vis X.env.scope n := by first | exact .inl rfl | exact .inr (.inl rfl) | exact .inr (.inr rfl)) (hg : Gl X "isinstance" := by rfl) (hgy : Gl X y := by rfl)
    (hd : (n == ("__debug__" : Str)) = false := by decide) (hcd : (n == ("__classdict__" : Str)) = false := by decide) (hdy : (y == ("__debug__" : Str)) = false := by decide) :
    PE (X.suite a ((a, oe) :: pn)) (.Call (.Name "isinstance" p1) [.Name n p2, .Name y p3] [] pos) (tE X.K m env (.bool (decide (q = y)))) := by
  obtain ⟨⟨fI, fd, _, _, _, hC⟩, _, is⟩ := ER
  exact e_excIs i hm he (hC q hq).ic hz hf (hC y hy).hm (is q hq y hy) hN hv hg hgy hd hcd hdy
theorem e_eMe (i : Nat) (ER : Er X.prog X.w X.K X.mg X.base xs) (hm : X.mg "isinstance" = none) (hq : q ∈ xs) (hz : Zc (.ref (He.ga X.K q)) (some dd) oe) (hf : ∃ vs, oe.data = .fields vs) (he : env[i]? = some (.exc a dd d) := by rfl)
    (hN : X.N[i]? = some n := by rfl) (hv : Vis X.env.scope n := by first | exact .inl rfl | exact .inr (.inl rfl) | exact .inr (.inr rfl)) (hg : Gl X "isinstance" := by rfl) (hgy : Gl X "ModelError" := by rfl)
    (hd : (n == ("__debug__" : Str)) = false := by decide) (hcd : (n == ("__classdict__" : Str)) = false := by decide) :
    PE (X.suite a ((a, oe) :: pn)) (.Call (.Name "isinstance" p1) [.Name n p2, .Name "ModelError" p3] [] pos) (tE X.K m env (.bool true)) := by
  obtain ⟨⟨fI, fd, _, _, _, hC⟩, hM, _⟩ := ER
  exact e_excIs i hm he (hC q hq).ic hz hf hM (hC q hq).me hN hv hg hgy hd hcd (by decide)
end
/-- what a def that may raise tells: the error's class and its word, or none -/
abbrev Err : Type := Option (Str × Int)
def exOf (K : KF) (xs : List Str) (r : Err) : Addr → PyData → Prop := fun C d => ∃ q, r = some q ∧ q.1 ∈ xs ∧ C = He.ga K q.1 ∧ d = .int q.2
section
variable {X : Cx} {K : KF} {e a b c : Expr} {m m1 m2 : Bool} {env : List Sl} {E : DE} {d d1 d2 : PyData} {i j : Nat} {k : Bool} {body suite rest t1 t2 : List Stmt} {b₀ : Stmt} {np pos pos' p px py pt pt2 : Pos} {x y n : Str} {xs : List Str} {n1 n2 : Int} {kt k2 : Nat}
theorem c_ifT (hc : PT X c (tT K env k)) (hk : k = true) (h1 : PSs X t1 (tS K env (E.to fun e => PSs X rest (tS K e E)))) : PSs X (.If c t1 t2 pos :: rest) (tS K env E) :=
  s_fork (s_if hc (fun _ => h1) (fun h => by rw [hk] at h; cases h))
theorem s_tryM {r : Err} (ER : Er X.prog X.w X.K X.mg X.base xs) (hN : X.N.Nodup) (hi : X.N[i]? = some n) (ep : List Sl → Prop)
    (hb : ∀ (W : WX) (pn : List (Addr × Obj)) (xe : Value → Shared → Prop), Takes (X.tr pn xe) W → PassesOwn (model X.prog X.w) X.A X.env xe → PSs (X.tr pn xe) body (tS X.K env ⟨E.nx, fun z => E.rt z ∨ ∃ C d, exOf X.K xs r C d ∧ z = .exc C d ep W, E.bk, E.ct⟩))
    (hsu : ∀ (q : Str × Int) (env' : List Sl) (a dd : Addr) (oe : Obj) (pn : List (Addr × Obj)), r = some q → q.1 ∈ xs → ep env' → Zc (.ref (He.ga X.K q.1)) (some dd) oe → (∃ vs, oe.data = .fields vs) →
      PSs (X.suite a ((a, oe) :: pn)) (b₀ :: suite) (tS X.K (env'.set i (.exc a dd (.int q.2))) ⟨fun e => E.nx (e.set i .no), E.rt, fun e => E.bk (e.set i .no), fun e => E.ct (e.set i .no)⟩))
    (hg : Gl X "ModelError" := by rfl) (hs : X.stack = X.env :: X.outer := by rfl) (hf : X.env.frame = some X.env.locals := by rfl) (hln : X.env.kindOf n = some .local := by rfl) :
    PS X (.Try body [.ExceptHandler (some (.Name "ModelError" np)) (some n) (b₀ :: suite) pos'] [] [] pos) (tS X.K env E) := by
  have hC := ER.ex
  obtain ⟨fI, fd, _, _, _, hC⟩ := hC
  exact s_try (ex := exOf X.K xs r) (c := .ref (He.ga X.K "ModelError")) hN hi ⟨hg, by decide, .inl ER.hM⟩ (fun C d ⟨q, h1, h2, h3, h4⟩ => by rw [h3]; exact (hC _ h2).exm) hb
    (fun C d env' a dd oe pn ⟨q, h1, h2, h3, h4⟩ he hz hf => by subst h3 h4; exact hsu q env' a dd oe pn h1 h2 he hz hf) hs hf hln
/-- the truth of an int, of a list -/
theorem t_int (h : PE X e (tE X.K true env (.int n1))) (he : ∀ whole, isTrue e X.env whole = (do let v ← whole; standAt e.pos; holding [v] (truthy v)) := by intro _; rfl) : PT X e (tT X.K env (!decide (n1 = 0))) :=
  ptmono (pt_truth h he) fun σ H Q ⟨F0, H0, F, ok, q⟩ => ⟨F0, H0, F, ok, fun v F' H' g x => by
    cases x
    exact ⟨!decide (n1 = 0), rfl, q F' H' g⟩⟩
theorem t_lst {α : Type} {enc : α → PyData} {zs : List α} (h : PE X e (tL X.K env (zs.map enc))) (he : ∀ whole, isTrue e X.env whole = (do let v ← whole; standAt e.pos; holding [v] (truthy v)) := by intro _; rfl) : PT X e (tT X.K env (!zs.isEmpty)) :=
  ptmono (pt_truth h he) fun σ H Q ⟨F0, H0, F, ok, q⟩ => ⟨F0, H0, F, ok, fun p vs F' H' g x y => by
    refine ⟨!vs.isEmpty, .inl ⟨vs, sqOf x, rfl⟩, ?_⟩
    have hl := y.length
    have : vs.isEmpty = zs.isEmpty := by
      cases vs <;> cases zs <;> simp at hl <;> rfl
    rw [this]
    exact q F' H' g⟩
/-- a, b = x, y -/
theorem s_par (i j : Nat) (hN : X.N.Nodup) (hij : i ≠ j) (ha : PE X a (tE X.K true env d1)) (hb : PE X b (tE X.K true env d2)) (h : E.nx ((env.set i (.dat d1)).set j (.dat d2))) (hi : X.N[i]? = some x := by rfl) (hj : X.N[j]? = some y := by rfl) (hc : X.calm = true := by rfl)
    (hx : X.env.scope.names.lookup x = some .local := by rfl) (hy : X.env.scope.names.lookup y = some .local := by rfl) (hw : swappedStores [.Tuple [.Name x px, .Name y py] kt pt] (.Tuple [a, b] k2 pt2) X.env = pure (some [x, y]) := by rfl)
    (hs : swapsWithSole [.Tuple [.Name x px, .Name y py] kt pt] (.Tuple [a, b] k2 pt2) pos.line X.env = pure false := by rfl) (na : NS X a := by exact fun _ => rfl) (nb : NS X b := by exact fun _ => rfl) :
    PS X (.Assign [.Tuple [.Name x px, .Name y py] kt pt] (.Tuple [a, b] k2 pt2) pos) (tS X.K env E) :=
  psmono (ps_par hc hN hi hj hij hx hy (a_cons ha (a_cons hb a_nil (nb [])) (na [b])) hw hs) fun D σ H ⟨F0, H0, F, ok, n, _⟩ => ⟨F0, H0, F, ok, fun vs F1 H1 g1 x1 => by
    cases x1 with
    | cons x1 x2 =>
      cases x2 with
      | cons x2 x3 =>
        cases x3
        exact ⟨_, _, rfl, n _ _ F1 H1 h (((ok.grow g1).setDat x1).setDat x2)⟩⟩
/-- // by any divisor -/
theorem op_fdivZ : OpR X (binaryOp .FloorDiv) (rI (fun _ j => j ≠ 0 ∧ j.natAbs.log2 < 9000) fun i j => .int (i.fdiv j)) := opI fun _ _ _ _ _ _ _ hc q => floordiv_int hc.1 q (.inl (PyProof.noPylong_of_log2 hc.2))
theorem e_fdivZ (ha : PE X a (tE K true env (.int n1))) (hb : PE X b (tE K true env (.int n2))) (hc : n2 ≠ 0 ∧ n2.natAbs.log2 < 9000) : PE X (.BinOp a .FloorDiv b pos) (tE K m env (.int (n1.fdiv n2))) := e_I (g := fun i j => i.fdiv j) op_fdivZ hc ha hb
/-- a, b = e, targets of any kind -/
theorem s_unpk {tg : Expr} {g : TG} {f : List Sl → List Sl} {ix : List Nat} (he : PE X e (tE K true env d)) (hg : PG X tg g) (hf : Asg K g d f ix) (h : E.nx (f env)) (hs : swapsWithSole [tg] e pos.line X.env = pure false := by rfl) (hw : swappedStores [tg] e X.env = pure none := by rfl)
    (h1 : (assignEach [tg] X.env).map (·.2) = [assign tg X.env] := by rfl) : PS X (.Assign [tg] e pos) (tS K env E) :=
  psmono (ps_asg he hg hs hw h1) fun D σ H ⟨F0, H0, F, ok, n, _⟩ => ⟨F0, H0, F, ok, fun v F1 H1 g1 x1 => hf F0 H0 F1 H1 env σ v _ (ok.grow g1) x1 fun σ' ok' _ => n _ _ F1 H1 h ok'⟩
/-- the slots where it is raised are those ahead of the try -/
theorem s_tryE {r : Err} (ER : Er X.prog X.w X.K X.mg X.base xs) (hN : X.N.Nodup) (hi : X.N[i]? = some n)
    (hb : ∀ (W : WX) (pn : List (Addr × Obj)) (xe : Value → Shared → Prop), Takes (X.tr pn xe) W → PassesOwn (model X.prog X.w) X.A X.env xe → PSs (X.tr pn xe) body (tS X.K env ⟨E.nx, fun z => E.rt z ∨ ∃ C d, exOf X.K xs r C d ∧ z = .exc C d (· = env) W, E.bk, E.ct⟩))
    (hsu : ∀ (q : Str × Int) (a dd : Addr) (oe : Obj) (pn : List (Addr × Obj)), r = some q → q.1 ∈ xs → Zc (.ref (He.ga X.K q.1)) (some dd) oe → (∃ vs, oe.data = .fields vs) →
      PSs (X.suite a ((a, oe) :: pn)) (b₀ :: suite) (tS X.K (env.set i (.exc a dd (.int q.2))) ⟨fun e => E.nx (e.set i .no), E.rt, fun e => E.bk (e.set i .no), fun e => E.ct (e.set i .no)⟩))
    (hg : Gl X "ModelError" := by rfl) (hs : X.stack = X.env :: X.outer := by rfl) (hf : X.env.frame = some X.env.locals := by rfl) (hln : X.env.kindOf n = some .local := by rfl) :
    PS X (.Try body [.ExceptHandler (some (.Name "ModelError" np)) (some n) (b₀ :: suite) pos'] [] [] pos) (tS X.K env E) :=
  s_tryM ER hN hi (· = env) hb (fun q env' a dd oe pn h1 h2 h3 hz hf => by subst h3; exact hsu q a dd oe pn h1 h2 hz hf) hg hs hf hln
end
end D3
namespace D3
open PySem PySem.Spec L2 PyProof.Rows

/-! ### the errors' facts, read at the head -/
def excB (K : KF) (C : Addr) : Bool := match K.lookup C with
  | some ⟨.type "type", _, .cls cd, sl⟩ => (match cd.mro, sl.toList with
    | .ref C' :: bm, [_, _, _, _, some (.builtin n), _] => C' == C && (n == "ValueError.__new__" && (!cd.hasDel && (cd.hasDict && HandSPX.refsVE bm)))
    | _, _ => false)
  | _ => false
theorem excB_ok {K : KF} {C : Addr} (q : excB K C = true) : ∃ nm q N bs bm sn sub ab col dd k0 k1 k2 k3 k5, K.lookup C = some (excClassObj nm q C N bs bm true sn sub ab col dd k0 k1 k2 k3 k5 "ValueError.__new__") ∧ HandSPX.refsVE bm = true := by
  unfold excB at q
  split at q
  · rename_i dd cd sl ho
    split at q
    · rename_i C' bm k0 k1 k2 k3 n k5 hm hs
      simp only [Bool.and_eq_true, beq_iff_eq, Bool.not_eq_true'] at q
      obtain ⟨rfl, rfl, hdel, hdict, ht⟩ := q
      obtain ⟨nm, bs, mro, ns, qn, hd, sn, sub, ab, col, del⟩ := cd
      dsimp only at hm hdel hdict
      subst hm hdel hdict
      have hsl : sl = #[k0, k1, k2, k3, some (.builtin "ValueError.__new__"), k5] := by
        obtain ⟨l⟩ := sl
        simp only at hs
        rw [hs]
      subst hsl
      exact ⟨_, _, _, _, _, _, _, _, _, _, _, _, _, _, _, ho, ht⟩
    · cases q
  · cases q
def clsB (K : KF) (fI : Addr) (x : Str) : Bool :=
  [excB K (He.ga K x), decide (PySem.W.findIn K (.ref (He.ga K x)) "__setattr__" = some (some (.builtin "object.__setattr__"))), decide (PySem.W.subIn K (.ref (He.ga K x)) (.type "BaseException") = some true),
   decide (PySem.W.typeIn K (.ref (He.ga K x)) = some (.type "type")), PySem.W.keepIn K (.ref (He.ga K x)), decide (PySem.W.findIn K (.ref (He.ga K x)) "at" = some none),
   decide (PySem.W.ks_superIn K (He.ga K x) (He.ga K "ModelError") "__init__" = some (some (.builtin "ValueError.__init__"))), decide (PySem.W.mroIn K (He.ga K x) (.ref (He.ga K "ModelError")) = some true), decide (PySem.W.subIn K (.ref (He.ga K x)) (.type "ValueError") = some true),
   decide (PySem.W.findIn K (.ref (He.ga K x)) "__init__" = some (some (.ref fI))), decide (PySem.W.nsIn K mainGlobals x = some (some (.ref (He.ga K x)))), decide (PySem.W.exmOne K (.ref (He.ga K x)) (.ref (He.ga K "ModelError")) = some true),
   decide (PySem.W.kitOne K (.ref (He.ga K x)) (.ref (He.ga K "ModelError")) = some true), decide (PySem.W.findIn K (.ref (He.ga K x)) "__getattribute__" = some (some (.builtin "BaseException.__getattribute__"))), decide (PySem.W.findIn K (.ref (He.ga K x)) "__getattr__" = some none),
   PySem.W.hasDictIn K (He.ga K x), decide (PySem.W.findIn K (.ref (He.ga K x)) "__class__" = some (some (.builtin "object.__class__"))), decide (PySem.W.specialIn K (.builtin "object.__class__") "__get__" = some (some (.builtin "getset_descriptor.__get__"))),
   decide (PySem.W.takesIn K (.builtin "object.__class__") = some true), decide (PySem.W.mroIn K (He.ga K x) (.type "object") = some true), decide (PySem.W.exmOne K (.ref (He.ga K x)) (.ref (He.ga K x)) = some true)].all id
theorem clsB_ok {K : KF} {h : Heap} {mg : Str → Option Value} {fI : Addr} {x : Str} (X : K.In h) (G : h.Ns mainGlobals mg) (c : clsB K fI x = true) : ErC K mg fI x := by
  unfold clsB at c
  simp only [List.all_cons, List.all_nil, Bool.and_eq_true, id, decide_eq_true_eq, and_true] at c
  obtain ⟨c1, c2, c3, c4, c5, c6, c7, c8, c9, c10, c11, c12, c13, c14, c15, c16, c17, c18, c19, c20, c21⟩ := c
  exact ⟨⟨⟨excB_ok c1, c2, c3, c4, c5⟩, c6, c7, c8, c9⟩, c10, PySem.W.mg_of X G c11, c12, c13, ⟨c14, c15, c3, c16, c17, c18, c19, c20⟩, ⟨c14, c15, c3, c16⟩, c21⟩
/-- the init's function, its code, its cell -/
def meF (K : KF) : Addr := He.ma K (He.ga K "ModelError") "__init__"
abbrev MeW : Type := Option (Str × Str × Arguments × FuncBody × Scope × Addr × List Str × Addr)
def meW (K : KF) : MeW := match K.lookup (meF K) with
  | some ⟨_, _, .func fd, _⟩ => some (fd.name, fd.qualname, fd.params, fd.body, fd.scope, fd.globals, fd.closure.map (·.1), fd.builtins)
  | _ => none
def meV (z : Nat → Pos) : MeW := some ("__init__", "ModelError.__init__", meA z, .stmts (meB z), meS, mainGlobals, ["__class__"], builtinsNs)
def nonV : Value → Bool
  | .none => true
  | _ => false
def codeB (file : Str) (K : KF) (cda : Addr) : Bool := match K.lookup cda with
  | some ⟨_, _, .fields vs, _⟩ => (match (vs[2]? : Option Value) with
    | some (.str f _) => file == f
    | _ => false)
  | _ => false
def cellB (K : KF) (cc : Addr) : Bool := match K.lookup cc with
  | some ⟨_, _, .cell (some (.ref M)), _⟩ => decide (M = He.ga K "ModelError")
  | _ => false
def codB (P : Program) (K : KF) : Value → List (Str × Addr) → Bool
  | .ref cda, [(_, cc)] => PySem.W.codeIn K (.ref cda) "ModelError.__init__" && (codeB P.main.file K cda && cellB K cc)
  | _, _ => false
theorem codB_ok {P : Program} {K : KF} {c : Value} {l : List (Str × Addr)} (h : codB P K c l = true) : ∃ cda y cc, c = .ref cda ∧ l = [(y, cc)] ∧ PySem.W.codeIn K (.ref cda) "ModelError.__init__" = true ∧ codeB P.main.file K cda = true ∧ cellB K cc = true := by
  unfold codB at h
  split at h
  · rename_i cda y cc
    obtain ⟨d4, d5⟩ := He.ba h
    obtain ⟨d5, d6⟩ := He.ba d5
    exact ⟨cda, y, cc, rfl, rfl, d4, d5, d6⟩
  · cases h
def erB (P : Program) (xs : List Str) (K : KF) : Bool :=
  (match K.lookup (meF K) with
    | some ⟨_, _, .func fd, _⟩ => nonV fd.defaults && (nonV fd.kwdefaults && codB P K fd.code fd.closure)
    | _ => false) &&
  [decide (PySem.W.typeIn K (.ref (meF K)) = some (.type "function")), (PySem.W.clsIn K (He.ga K "ModelError")).isSome, decide (PySem.W.nsIn K cStatics "thirdparty.any" = some none), decide (PySem.W.nsIn K mainGlobals "super" = some none), !(P.main.scope.names.lookup ("super" : Str)).isSome,
   decide (PySem.W.nsIn K mainGlobals "ModelError" = some (some (.ref (He.ga K "ModelError")))), xs.all (clsB K (meF K)), xs.all fun x => xs.all fun y => decide (PySem.W.kitOne K (.ref (He.ga K x)) (.ref (He.ga K y)) = some (decide (x = y)))].all id
theorem nonV_ok {v : Value} (h : nonV v = true) : v = .none := by
  cases v <;> first | rfl | cases h
theorem er_of {P : Program} {w : World} {K : KF} {h base : Heap} {mg : Str → Option Value} {xs : List Str} {z : Nat → Pos} (X : K.In h) (G : h.Ns mainGlobals mg) (c : erB P xs K = true) (e : meW K = meV z) (he : MeHe z) : Er P w K mg base xs := by
  obtain ⟨c0, c⟩ := He.ba (show (_ && _) = true from c)
  simp only [List.all_cons, List.all_nil, Bool.and_eq_true, id, decide_eq_true_eq, and_true, Bool.not_eq_true'] at c
  obtain ⟨c1, c2, c3, c4, c5, c6, c7, c8⟩ := c
  unfold meW at e
  cases lk : K.lookup (meF K) with
  | none => rw [lk] at c0; cases c0
  | some o =>
    obtain ⟨oc, od, dt, osl⟩ := o
    rw [lk] at c0 e
    cases dt with
    | func fd =>
      obtain ⟨n1, n2, n3, n4, n5, n6, n7, n8, n9, n10, n11, n12, n13, n14, n15⟩ := fd
      have e2 : (some (n1, n2, n3, n4, n5, n6, n7.map (·.1), n15) : MeW) = meV z := e
      unfold meV at e2
      simp only [Option.some.injEq, Prod.mk.injEq] at e2
      obtain ⟨h1, h2, h3, h4, h5, h6, h7, h8⟩ := e2
      obtain ⟨d1, d2⟩ := He.ba (show (nonV n8 && _) = true from c0)
      obtain ⟨d2, d3⟩ := He.ba d2
      have d1' := nonV_ok d1
      have d2' := nonV_ok (show nonV n9 = true from d2)
      obtain ⟨cda, y, cc, hcode, hclo, d4, d5, d6⟩ := codB_ok (show codB P K n13 n7 = true from d3)
      subst hcode hclo
      have hy : y = "__class__" := by simpa using h7
      subst h1 h2 h3 h4 h5 h6 h8 d1' d2' hy
      refine ⟨⟨meF K, _, me_init (z := z) (M := He.ga K "ModelError") (cc := cc) (cda := cda) ⟨⟨_, _, _, _, _, _, _, _, _, lk, rfl⟩, d4, ?_, ?_, Option.isSome_iff_exists.mp c2, he, c3, PySem.W.mg_none_of X G c4, c5⟩, fun s us hK hl => ?_, c1, fun x hx => clsB_ok X G (List.all_eq_true.mp c7 x hx)⟩, PySem.W.mg_of X G c6, fun x hx y hy => of_decide_eq_true (List.all_eq_true.mp (List.all_eq_true.mp c8 x hx) y hy)⟩
      · unfold codeB at d5
        split at d5
        · rename_i a1 a2 vs a3 ho
          split at d5
          · rename_i f tk hv
            exact ⟨_, _, vs, _, f, tk, ho, hv, d5⟩
          · cases d5
        · cases d5
      · unfold cellB at d6
        split at d6
        · rename_i a1 a2 M a3 ho
          have := of_decide_eq_true d6
          subst this
          exact ⟨_, _, _, ho⟩
        · cases d6
      · obtain ⟨a, b, rfl⟩ : ∃ a b, us = [a, b] := by
          match us, hl with
          | [a, b], _ => exact ⟨a, b, rfl⟩
        exact BindsTo.of_eq (by first | rfl | with_unfolding_all rfl)
    | _ => cases c0
/-! ### the Hook -/
abbrev AlM : Type := He.AlD × Bool × MeW
def asM (g : Addr → Option Obj) (n : Nat) : List Addr := He.asD g n ++ [cStatics]
def obsM (fa : List He.Fa) (fn : List He.DefD) (P : Program) (xs : List Str) (K : KF) : AlM := (He.obsD fa fn K, erB P xs K, meW K)
def valM (fn : List He.DefD) (z : Nat → Pos) : AlM := (He.valD fn, true, meV z)
def SaysM (fa : List He.Fa) (fn : List He.DefD) (P : Program) (xs : List Str) (z : Nat → Pos) (K : KF) : Prop := obsM fa fn P xs K = valM fn z
def obsMG (n : Nat) (fa : List He.Fa) (fn : List He.DefD) (P : Program) (xs : List Str) (g : Addr → Option Obj) : AlM := obsM fa fn P xs (He.frG g (asM g n))
def hookM (n : Nat) (fa : List He.Fa) (fn : List He.DefD) (P : Program) (xs : List Str) (z : Nat → Pos) : PySem.W.Hook where
  α := AlM
  obs := fun s => obsMG n fa fn P xs s.heap.get?
  val := fun _ => valM fn z
  says := fun _ h => ∃ K : KF, K.In h ∧ SaysM fa fn P xs z K
  of := fun _ _ e => ⟨_, He.frG_in, e⟩
  keeps := fun _ _ _ ⟨K, hK, c⟩ k => ⟨K, PySem.W.Frag.In.keeps hK k, c⟩
theorem obsMG_eq {n : Nat} {fa : List He.Fa} {fn : List He.DefD} {P : Program} {xs : List Str} {z : Nat → Pos} {g : Addr → Option Obj} {s : Shared} (h : ∀ a, g a = s.heap.get? a) : obsMG n fa fn P xs g = (hookM n fa fn P xs z).obs s := by
  have e : g = s.heap.get? := funext h
  rw [e] <;> rfl
end D3
namespace D3
open PySem PySem.Spec L2 PyProof.Rows
section
variable {X : Cx} {K : KF} {e a b c : Expr} {es : List Expr} {m m1 m2 m3 : Bool} {env : List Sl} {d d1 d2 : PyData} {ds ds1 ds2 : List PyData} {pos p p1 p2 p3 p4 tpos : Pos} {x : Str} {i j : Int} {E : DE} {st : Stmt} {rest : List Stmt}
/-! ### a thing or None -/
def eO {α : Type} (f : α → PyData) : Option α → PyData
  | none => .none
  | some z => f z
theorem e_some {α : Type} {f : α → PyData} {z : α} (h : PE X e (tE K m env (f z))) : PE X e (tE K m env (eO f (some z))) := h
theorem e_noneO {α : Type} {f : α → PyData} {k : Nat} : PE X (.Constant .none k pos) (tE K m env (eO f none)) := e_non
theorem e_getO {α : Type} {f : α → PyData} {z : Option α} (z0 : α) (h : PE X e (tE K m env (eO f z))) (hz : z.isSome = true) : PE X e (tE K m env (f (z.getD z0))) := by
  cases z with
  | none => cases hz
  | some y => exact h
class NoNone {α : Type} (f : α → PyData) : Prop where
  ne : ∀ z, f z ≠ .none
instance : NoNone PyData.int := ⟨fun _ h => by cases h⟩
instance : NoNone PyData.str := ⟨fun _ h => by cases h⟩
instance {α : Type} (f : α → PyData) : NoNone (eL f) := ⟨fun _ h => by cases h⟩
theorem noneB_eO {α : Type} {f : α → PyData} [NoNone f] (z : Option α) : noneB (eO f z) = z.isNone := by
  cases z with
  | none => rfl
  | some y =>
    show noneB (f y) = false
    cases hy : f y with
    | none => exact absurd hy (NoNone.ne y)
    | _ => rfl
theorem c_isNoneO {α : Type} {f : α → PyData} [NoNone f] {z : Option α} {k : Nat} (ha : PE X a (tE K true env (eO f z))) : (PE X (.Compare a [.Is] [.Constant .none k p1] pos) (tE K m env (.bool z.isNone))) ∧ PT X (.Compare a [.Is] [.Constant .none k p1] pos) (tT K env z.isNone) := by
  rw [← noneB_eO (f := f) z]
  exact c_isNone ha
theorem c_notNoneO {α : Type} {f : α → PyData} [NoNone f] {z : Option α} {k : Nat} (ha : PE X a (tE K true env (eO f z))) : (PE X (.Compare a [.IsNot] [.Constant .none k p1] pos) (tE K m env (.bool z.isSome))) ∧ PT X (.Compare a [.IsNot] [.Constant .none k p1] pos) (tT K env z.isSome) := by
  have : z.isSome = !noneB (eO f z) := by rw [noneB_eO]; cases z <;> rfl
  rw [this]
  exact c_notNone ha
/-! ### enumerate -/
def enumZ {α : Type} (xs : List α) : List (Int × α) := xs.zipIdx.map fun p => ((p.2 : Int), p.1)
theorem enum_get {α : Type} {xs : List α} {i : Nat} {z : Int × α} (h : (enumZ xs)[i]? = some z) : z.1 = (i : Int) ∧ xs[i]? = some z.2 := by
  unfold enumZ at h
  rw [List.getElem?_map, List.getElem?_zipIdx] at h
  cases hx : xs[i]? with
  | none => rw [hx] at h; cases h
  | some y =>
    rw [hx] at h
    simp at h
    subst h
    exact ⟨rfl, rfl⟩
theorem enum_len {α : Type} (xs : List α) : (enumZ xs).length = xs.length := by simp [enumZ]
theorem enum_map {α : Type} (enc : α → PyData) (xs : List α) : (enumZ xs).map (eT2 .int enc) = xs.zipIdx.map fun q => PyData.tuple [.int (q.2 : Int), enc q.1] := by
  unfold enumZ
  rw [List.map_map]
  rfl
theorem i_enum {α : Type} {enc : α → PyData} {zs : List α} {elts : List Expr} {kk : Nat} (hm : X.mg "enumerate" = none) (h : PE X e (tE X.K true env (.list (zs.map enc)))) (hg : Gl X "enumerate" := by rfl) (ns : NS X e := by exact fun _ => rfl) :
    PI X (.Tuple elts kk tpos) (.Call (.Name "enumerate" p) [e] [] pos) (tI X.K env ((enumZ zs).map (eT2 .int enc))) :=
  pimono (pi_enum hg hm (pa_cons h pa_nil (ns [])) (ns [])) fun σ H R ⟨F0, H0, F, ok, k⟩ => ⟨F0, H0, F, ok, fun v F1 H1 g1 x => by
    cases (show Dq X.K F1 v (.list (zs.map enc)) from x) with
    | @lst a vs _ h1 h2 =>
      have hl := h2.length
      rw [List.length_map] at hl
      refine ⟨a, vs, rfl, sqOf (g1.fh _ _ h1), k _ F1 H1 g1 ⟨fun i F' H' hi e1 e2 => ?_, fun i F' H' hi e1 e2 => ⟨vs, sqOf (e2 _ _ (e1 _ _ h1)), by rw [List.length_map, enum_len] at hi; omega⟩, fun i d F' H' x H'' hd e1 e2 hy => ?_⟩⟩
      · rw [List.length_map, enum_len] at hi
        exact ⟨vs, vs[i], sqOf (e2 _ _ (e1 _ _ h1)), List.getElem?_eq_getElem (by omega)⟩
      · obtain ⟨T, y, rfl, hT, rfl, hy⟩ := hy
        have hx := hy vs (sqOf (e2 _ _ (e1 _ _ h1)))
        obtain ⟨d', q1, q2⟩ := h2.getV hx
        have hd' : d = .tuple [.int (i : Int), d'] := by
          rw [enum_map, List.getElem?_map, List.getElem?_zipIdx] at hd
          rw [List.getElem?_map] at q1
          cases hz : zs[i]? with
          | none => rw [hz] at q1; cases q1
          | some z =>
            rw [hz] at hd q1
            simp at hd q1
            rw [← hd, ← q1]
        subst hd'
        exact ⟨_, Grow.new e2 hT, .tup (.inl (.inl upd_same)) (.cons (.int _) (.cons ((q2.up e1).up (Ex.new (e2.back hT))) .nil))⟩⟩
/-- for over anything, targets of any kind -/
theorem c_forT {α : Type} {enc : α → PyData} {zs : List α} {tg iter : Expr} {g : TG} {ix : List Nat} {f : α → List Sl → List Sl} {body : List Stmt} (U : Nat → List (Nat × Sl)) (hp : PassesOwn (model X.prog X.w) X.A X.env X.xe) (hi : PI X tg iter (tI X.K env (zs.map enc))) (hg : PG X tg g)
    (hf : ∀ z ∈ zs, Asg X.K g (enc z) (f z) ix) (hfl : ∀ z e1 e2, LeE e1 e2 → LeE (f z e1) (f z e2)) (h0 : LeE env (setAll env (U 0)))
    (hb : ∀ (i : Nat) z, zs[i]? = some z → PSs X body (tS X.K (f z (setAll env (U i))) ⟨fun e => LeE e (setAll env (U (i + 1))), E.rt, fun e => PSs X rest (tS X.K e E), fun e => LeE e (setAll env (U (i + 1)))⟩)) (hd : PSs X rest (tS X.K (setAll env (U zs.length)) E))
    (hc : X.calm = true := by rfl) (hs : ∀ x, foldedSetIterable iter X.env x = pure x := by intro _; rfl) : PSs X (.For tg iter body [] pos :: rest) (tS X.K env E) :=
  s_cons (M := fun e => PSs X rest (tS X.K e E)) (s_forE (E := E.to fun e => PSs X rest (tS X.K e E)) (fun i => setAll env (U i)) hp hi hg hf hfl h0 hb (fun e he => s_le he hd) hc hs) fun e q => q
/-! ### max, min of a list -/
def maxL : List Int → Int
  | [] => 0
  | x :: xs => xs.foldl max x
theorem foldl_max_mem (xs : List Int) : ∀ x : Int, (xs.foldl max x = x ∨ xs.foldl max x ∈ xs) ∧ x ≤ xs.foldl max x ∧ ∀ y ∈ xs, y ≤ xs.foldl max x := by
  induction xs with
  | nil => intro x; exact ⟨.inl rfl, Int.le_refl _, fun y h => by cases h⟩
  | cons a xs ih =>
    intro x
    obtain ⟨h1, h2, h3⟩ := ih (max x a)
    rw [List.foldl_cons]
    refine ⟨?_, by omega, fun y hy => ?_⟩
    · rcases h1 with h1 | h1
      · rw [h1]
        rcases Int.le_total x a with h | h
        · rw [Int.max_eq_right h]; exact .inr (List.mem_cons_self ..)
        · rw [Int.max_eq_left h]; exact .inl rfl
      · exact .inr (List.mem_cons_of_mem _ h1)
    · rcases List.mem_cons.mp hy with rfl | hy
      · omega
      · exact h3 y hy
theorem maxL_mem {xs : List Int} (h : xs ≠ []) : maxL xs ∈ xs := by
  cases xs with
  | nil => exact absurd rfl h
  | cons x xs =>
    rcases (foldl_max_mem xs x).1 with h1 | h1
    · show xs.foldl max x ∈ _
      rw [h1]; exact List.mem_cons_self ..
    · exact List.mem_cons_of_mem _ h1
theorem maxL_le {xs : List Int} {y : Int} (h : y ∈ xs) : y ≤ maxL xs := by
  cases xs with
  | nil => cases h
  | cons x xs =>
    rcases List.mem_cons.mp h with rfl | h
    · exact (foldl_max_mem xs y).2.1
    · exact (foldl_max_mem xs x).2.2 y h
theorem e_maxL {xs : List Int} (hm : X.mg "max" = none) (h : PE X e (tL X.K env (xs.map .int))) (hne : xs ≠ []) (hc : X.calm = true := by rfl) (hg : Gl X "max" := by rfl) (hv : bootBuiltins "max" = some (.builtin "max") := by decide +kernel) (ns : NS X e := by exact fun _ => rfl) :
    PE X (.Call (.Name "max" p1) [e] [] pos) (tE X.K m env (.int (maxL xs))) :=
  pmono (pe_callB (cr_max hc) hg hm hv (pa_cons h pa_nil (ns [])) (he := ns [])) fun σ H Q ⟨F0, H0, F, ok, k⟩ => ⟨F0, H0, F, ok, fun p vs F1 H1 g1 x y => ⟨p, xs, rfl, by rw [DqAll.ints y] at x; exact sqOf x, List.length_pos_iff.mpr hne, fun mm h1 h2 => by
    have : mm = maxL xs := Int.le_antisymm (maxL_le h1) (h2 _ (maxL_mem hne))
    rw [this]
    exact k _ F1 H1 g1 (.int _)⟩⟩
/-! ### bits -/
theorem e_shr {n : Nat} (ha : PE X a (tE K true env (.int i))) (hb : PE X b (tE K true env (.int (n : Int)))) : PE X (.BinOp a .RShift b pos) (tE K m env (.int (i / 2 ^ n))) :=
  e_bin op_shrN ha hb (fun x y H Q hx hy q => by cases hx; cases hy; exact ⟨i, n, rfl, rfl, q⟩) fun _ => .int _
theorem e_and1 {k : Nat} (ha : PE X a (tE K true env (.int i))) : PE X (.BinOp a .BitAnd (.Constant (.int 1) k p1) pos) (tE K m env (.int (i % 2))) :=
  e_bin op_andM ha (e_int (m := true) (env := env)) (fun x y H Q hx hy q => by cases hx; cases hy; exact ⟨i, 1, rfl, rfl, q⟩) fun _ => .int _
end
end D3
namespace D3
open PySem PySem.Spec L2 PyProof.Rows

/-! ### how long a datum's text is -/
structure Rp (n b : Nat) (d : PyData) : Prop where
  sh : d.showable = true
  la : d.canLay0 = true
  de : d.depth ≤ n
  le : d.shown.length ≤ b
theorem Rp.up {n b n' b' : Nat} {d : PyData} (h : Rp n b d) (hn : n ≤ n') (hb : b ≤ b') : Rp n' b' d := ⟨h.sh, h.la, Nat.le_trans h.de hn, Nat.le_trans h.le hb⟩
theorem rp_int {k : Nat} {i : Int} (h0 : 0 < k) (hk : k ≤ 1900) (h : Sm k i) : Rp 0 (k + 1) (.int i) := by
  have hl : i.natAbs.log2 < k := PySem.Flt.log2_lt_of h0 h
  refine ⟨?_, rfl, Nat.le_refl _, ?_⟩
  · show decide (i.natAbs.log2 < 1920) = true
    exact decide_eq_true (by omega)
  · show (Str.ofString (toString i)).length ≤ k + 1
    rw [PySem.ofString_length]
    exact int_text_length_le h0 hl
theorem rp_bool (b : Bool) : Rp 0 5 (.bool b) := by cases b <;> exact ⟨rfl, rfl, Nat.le_refl _, by decide +kernel⟩
theorem rp_none : Rp 0 4 .none := ⟨rfl, rfl, Nat.le_refl _, by decide +kernel⟩
theorem text_le (b : Nat) : ∀ (ts : List Str) (k : Nat) (acc : Str), (∀ t ∈ ts, t.length ≤ b) → (textFrom k acc ts).length ≤ acc.length + ts.length * (b + 2)
  | [], k, acc, _ => by show acc.length ≤ _; simp
  | t :: ts, k, acc, h => by
    have ih := text_le b ts (k + 1) (acc ++ (if k > 0 then ", " else "" : String) ++ t) fun u hu => h u (List.mem_cons_of_mem _ hu)
    have ht := h t (List.mem_cons_self ..)
    have e : (acc ++ (if k > 0 then ", " else "" : String) ++ t).length ≤ acc.length + 2 + t.length := by
      rw [strLen_append, strLen_append]
      have : ((if k > 0 then ", " else "" : String) : Str).length ≤ 2 := by
        split
        · decide +kernel
        · decide +kernel
      omega
    show (textFrom (k + 1) _ ts).length ≤ _
    rw [List.length_cons, Nat.succ_mul]
    omega
theorem join_le (b : Nat) (ts : List Str) (h : ∀ t ∈ ts, t.length ≤ b) : (Str.join ", " ts).length ≤ ts.length * (b + 2) := by
  have hp : ∀ ts : List Str, (∀ t ∈ ts, t.length ≤ b) → piled ts ≤ ts.length * (b + 2) := by
    intro ts
    induction ts with
    | nil => intro _; exact Nat.zero_le _
    | cons t ts ih =>
      intro h
      rw [piled_cons, List.length_cons, Nat.succ_mul]
      have h1 := ih fun u hu => h u (List.mem_cons_of_mem _ hu)
      have h2 := h t (List.mem_cons_self ..)
      omega
  cases ts with
  | nil =>
    have : (Str.join (", " : Str) []).length = 0 := by decide +kernel
    omega
  | cons t ts =>
    have h1 := join_length_add (t :: ts) (by simp)
    have h2 := hp (t :: ts) h
    omega
theorem rp_all {n b : Nat} : ∀ {ds : List PyData}, (∀ d ∈ ds, Rp n b d) → PyData.showableAll ds = true ∧ PyData.canLayAll0 ds = true ∧ PyData.depthAll ds ≤ n ∧ (PyData.shownAll ds).length = ds.length ∧ ∀ t ∈ PyData.shownAll ds, t.length ≤ b
  | [], _ => ⟨rfl, rfl, Nat.zero_le _, rfl, fun t h => by cases h⟩
  | d :: ds, h => by
    obtain ⟨h1, h2, h3, h4, h5⟩ := rp_all (ds := ds) fun e he => h e (List.mem_cons_of_mem _ he)
    have hd := h d (List.mem_cons_self ..)
    refine ⟨?_, ?_, ?_, ?_, ?_⟩
    · show (d.showable && PyData.showableAll ds) = true
      rw [hd.sh, h1]; rfl
    · show (d.canLay0 && PyData.canLayAll0 ds) = true
      rw [hd.la, h2]; rfl
    · show max d.depth (PyData.depthAll ds) ≤ n
      have := hd.de
      omega
    · show (d.shown :: PyData.shownAll ds).length = _
      rw [List.length_cons, h4, List.length_cons]
    · intro t ht
      rcases List.mem_cons.mp (show t ∈ d.shown :: PyData.shownAll ds from ht) with rfl | ht
      · exact hd.le
      · exact h5 t ht
theorem rp_list {n b m : Nat} {ds : List PyData} (h : ∀ d ∈ ds, Rp n b d) (hm : ds.length ≤ m) : Rp (n + 1) (2 + m * (b + 2)) (.list ds) := by
  obtain ⟨h1, h2, h3, h4, h5⟩ := rp_all h
  refine ⟨h1, h2, Nat.succ_le_succ h3, ?_⟩
  show (textFrom 0 "[" (PyData.shownAll ds) ++ "]").length ≤ _
  have := text_le b (PyData.shownAll ds) 0 "[" h5
  rw [strLen_append]
  have e1 : ("[" : Str).length = 1 := by decide +kernel
  have e2 : ("]" : Str).length = 1 := by decide +kernel
  rw [h4] at this
  have := Nat.mul_le_mul_right (b + 2) hm
  omega
theorem rp_tup {n b m : Nat} {ds : List PyData} (h : ∀ d ∈ ds, Rp n b d) (hm : ds.length ≤ m) : Rp (n + 1) (3 + m * (b + 2)) (.tuple ds) := by
  obtain ⟨h1, h2, h3, h4, h5⟩ := rp_all h
  refine ⟨h1, h2, Nat.succ_le_succ h3, ?_⟩
  show (("(" : Str) ++ Str.join ", " (PyData.shownAll ds) ++ (if (PyData.shownAll ds).length == 1 then ",)" else ")" : String)).length ≤ _
  have := join_le b (PyData.shownAll ds) h5
  rw [strLen_append, strLen_append]
  have e1 : ("(" : Str).length = 1 := by decide +kernel
  have e2 : ((if (PyData.shownAll ds).length == 1 then ",)" else ")" : String) : Str).length ≤ 2 := by
    split
    · decide +kernel
    · decide +kernel
  rw [h4] at this
  have := Nat.mul_le_mul_right (b + 2) hm
  omega
/-! typed -/
theorem rp_L {α : Type} {f : α → PyData} {n b m : Nat} {zs : List α} (h : ∀ z ∈ zs, Rp n b (f z)) (hm : zs.length ≤ m) : Rp (n + 1) (2 + m * (b + 2)) (eL f zs) :=
  rp_list (fun d hd => by obtain ⟨z, hz, rfl⟩ := List.mem_map.mp hd; exact h z hz) (by rw [List.length_map]; exact hm)
theorem rp_T2 {α β : Type} {f : α → PyData} {g : β → PyData} {n b : Nat} {z : α × β} (h1 : Rp n b (f z.1)) (h2 : Rp n b (g z.2)) : Rp (n + 1) (3 + 2 * (b + 2)) (eT2 f g z) :=
  rp_tup (fun d hd => by
    rcases List.mem_cons.mp hd with rfl | hd
    · exact h1
    · rcases List.mem_cons.mp hd with rfl | hd
      · exact h2
      · cases hd) (Nat.le_refl 2)
section
variable {X : Cx} {K : KF} {e a b c : Expr} {m m1 : Bool} {env : List Sl} {d : PyData} {pos p1 : Pos}
def isRef : PyData → Bool
  | .list _ | .tuple _ => true
  | _ => false
theorem e_reprD {n bb : Nat} (hA : X.A.guards = some []) (hu : X.A.units + 80 < cLine) (hm : X.mg "repr" = none) (h : PE X e (tE X.K m1 env d)) (hr : isRef d = true) (hp : Rp n bb d) (hn : n ≤ 64) (hb : bb ≤ sizeLine) (hg : Gl X "repr" := by rfl) (ns : NS X e := by exact fun _ => rfl) :
    PE X (.Call (.Name "repr" p1) [e] [] pos) (tE X.K m env (.str d.shown)) :=
  pmono (pe_callB (call_reprD hA hu) hg hm PyProof.Rows.boot_repr (pa_cons h pa_nil (ns [])) (he := ns [])) fun σ H Q ⟨F0, H0, F, ok, q⟩ => ⟨F0, H0, F, ok, fun v F1 H1 g1 x => by
    have x1 := seldq g1.fh x
    have href : ∃ a, v = .ref a := by
      cases x1 with
      | lst _ _ => exact ⟨_, rfl⟩
      | tup _ _ => exact ⟨_, rfl⟩
      | _ => cases hr
    obtain ⟨a, rfl⟩ := href
    exact ⟨a, d, rfl, Dq.dp _ _ x1, hp.sh, hp.la, Nat.le_trans hp.de hn, Nat.le_trans hp.le hb, q _ F1 H1 g1 (.str _)⟩⟩
end
theorem hu80 {k : Nat} {A : Around} (hr : Room k A) : A.units + 80 < cLine := by have := hr.un; omega
end D3
namespace D3
open PySem PySem.Spec L2

/-! ### sum(lists, []) -/
theorem catW {prog : Program} {w : World} {A : Around} {E : Value → Shared → Prop} {s : Shared} {l b : Addr} {vs ws : List Value} {Q : Value → Shared → Prop} (hl : s.heap.IsList l vs.toArray) (hb : s.heap.IsList b ws.toArray) (hsz : vs.length + ws.length ≤ sizeLine)
    (h : Q (.ref s.heap.objs.size) { s with heap := s.heap.push { cls := .type "list", data := .seq (vs ++ ws).toArray } }) : wpAny (model prog w) A (binaryOp .Add (.ref l) (.ref b)) Q E s := by
  obtain ⟨⟨c1, d1, t1, s1⟩, o1, k1, n1, j1⟩ := id hl
  obtain ⟨⟨c2, d2, t2, s2⟩, o2, k2, n2, j2⟩ := id hb
  simp only at k1 j1 k2 j2
  subst k1 j1 k2 j2
  have ea : vs.toArray ++ ws.toArray = (vs ++ ws).toArray := by simp
  refine PySem.concat_meets ⟨_, o1, rfl⟩ ⟨_, o2, rfl⟩ PySem.noFill_list_add PySem.seq_list_add PySem.F.slot_list_add PySem.F.entry_list_add (PySem.F.args_list_add_2 _ _) (PyProof.Rows.list_addW l b vs.toArray ws.toArray n1 n2 d1 d2 s1 s2 (by simpa using hsz)) ⟨o1, o2, ?_⟩
  rw [ea]
  exact h
/-- what the items behind place i hold, one behind another -/
def behind (c : Nat → List Value) (n : Nat) : Nat → List Value
  | 0 => []
  | k + 1 => c (n - (k + 1)) ++ behind c n k
abbrev lstO (vs : List Value) (e : Nat) : Obj := { cls := .type "list", data := .seq vs.toArray e }
theorem isL_of {h : Heap} {a : Addr} {vs : List Value} {e : Nat} (x : h.get? a = some (lstO vs e)) : h.IsList a vs.toArray := ⟨_, x, rfl, e, rfl⟩
theorem sum_lists {prog : Program} {w : World} {A : Around} {R : Result → Shared → Prop} {I : Addr} {fp wr : List Addr} {n : Nat} {P : Nat → Value → Prop} {St : Nat → Heap → Prop} (W : Walks prog w A.in1 I fp wr n P St) (hwr : ∀ i h, St i h → ∀ b ∈ wr, ∃ o, h.get? b = some o) (c : Nat → List Value) (S : Addr) (hSf : S ∉ fp) (h0 : Heap)
    (hv : ∀ i v, P i v → ∃ a, v = .ref a ∧ a ∉ wr ∧ a ≠ S ∧ h0.IsList a (c i).toArray) :
    ∀ (k i : Nat) (s : Shared) (T : Addr) (tot : List Value) (ep e : Nat), n - i = k → i ≤ n → St i s.heap → (∀ b o, b ∉ wr → b ≠ S → h0.get? b = some o → s.heap.get? b = some o) → s.heap.get? S = some { cls := .type "list", dict := none, data := .seq #[.ref T] ep, slots := #[] } →
    T ≠ S → T ∉ wr → s.heap.get? T = some (lstO tot e) → tot.length + (behind c n k).length ≤ sizeLine →
    (∀ h' tk T' e', (∀ b o, b ∉ wr → b ≠ S → s.heap.get? b = some o → h'.get? b = some o) → (T' = T ∨ S < T') → h'.get? T' = some (lstO (tot ++ behind c n k) e') → R (.ok (.ret (.ref T'))) { s with heap := h', toks := tk }) →
    codeAny (model prog w) A (.builtin "sum.loop" ⟨[.ref I, .ref S, rawInt 2, rawInt 0], []⟩) R s := by
  have hSw : S ∉ wr := fun h => hSf (W.sub _ h)
  intro k
  induction k with
  | zero =>
    intro i s T tot ep e hk hi hst hh hS hTS hTw hT hz hR
    have hin : i = n := by omega
    subst hin
    refine codeAny_builtin PySem.F.entry_sum_loop ?_
    rw [Around.under_plainId PySem.F.plain_sum_loop _]
    show wpAny _ A.in1 (seqItems? (.ref S) >>= _) _ _ s
    refine wpAny_bind (wpAny_seqItems hS rfl ?_)
    show wpAny _ A.in1 (tryCatch (pyNext (.ref I)) _ >>= _) _ _ s
    refine wpAny_bind (wpAny_tryCatch (W.done s _ _ hst fun h' tk hk' => ?_))
    refine wpAny_pure (hR h' tk T e (fun b o hb _ e => hk' b o hb e) (.inl rfl) ?_)
    rw [show tot ++ behind c i 0 = tot from List.append_nil _]
    exact hk' T _ hTw hT
  | succ k ih =>
    intro i s T tot ep e hk hi hst hh hS hTS hTw hT hz hR
    have hlt : i < n := by omega
    have hb0 : behind c n (k + 1) = c i ++ behind c n k := by
      show c (n - (k + 1)) ++ _ = _
      rw [show n - (k + 1) = i from by omega]
    rw [hb0, List.length_append] at hz
    refine codeAny_builtin PySem.F.entry_sum_loop ?_
    rw [Around.under_plainId PySem.F.plain_sum_loop _]
    show wpAny _ A.in1 (seqItems? (.ref S) >>= _) _ _ s
    refine wpAny_bind (wpAny_seqItems hS rfl ?_)
    show wpAny _ A.in1 (tryCatch (pyNext (.ref I)) _ >>= _) _ _ s
    refine wpAny_bind (wpAny_tryCatch (W.item i s _ _ hlt hst fun v h' tk hP hst' hk' => ?_))
    obtain ⟨a, rfl, haw, haS, haL⟩ := hv i v hP
    have hS' := hk' S _ hSw hS
    have hT' := hk' T _ hTw hT
    have ha' : h'.IsList a (c i).toArray := haL.at fun o e => hk' a o haw (hh a o haw haS e)
    show wpAny _ A.in1 ((holding [Value.ref a] (binaryOp .Add (.ref T) (.ref a))).attempt >>= _) _ _ _
    refine wpAny_bind (wpAny_attempt (wpAny_holding (catW (isL_of hT') ha' (by omega) ?_)))
    have hS2 : (h'.push (lstO (tot ++ c i) 0)).get? S = some { cls := .type "list", dict := none, data := .seq #[.ref T] ep, slots := #[] } := Heap.get?_push_of_some _ hS'
    show wpAny _ A.in1 (updateSeq S (fun _ => #[.ref h'.objs.size]) >>= _) _ _ _
    refine wpAny_bind ?_
    refine wpAny_updateSeq hS2 rfl ?_
    have hS3 := Heap.get?_update_self (Obj.mapSeq fun _ => #[Value.ref h'.objs.size]) hS2 rfl
    refine wpAny_bind (wpAny_letGo ?_)
    refine wpAny_bind ?_
    have hne : h'.objs.size ≠ S := Nat.ne_of_gt (Heap.lt_size hS')
    have hnw : h'.objs.size ∉ wr := fun z => by
      obtain ⟨o, ho⟩ := hwr _ _ hst' _ z
      exact absurd (Heap.lt_size ho) (Nat.lt_irrefl _)
    have hfr : s.heap.get? h'.objs.size = none := by
      cases z : s.heap.get? h'.objs.size with
      | none => rfl
      | some o => exact absurd (Heap.lt_size (hk' _ o hnw z)) (Nat.lt_irrefl _)
    generalize hh3 : ((h'.push (lstO (tot ++ c i) 0)).update S (Obj.mapSeq fun _ => #[Value.ref h'.objs.size])).update S (Obj.mapSeq fun _ => #[Value.ref h'.objs.size]) = h3
    have kk : ∀ b o, b ≠ S → h'.get? b = some o → h3.get? b = some o := fun b o hb e => by
      rw [← hh3]
      exact (Heap.get?_update_other _ _ (Ne.symm hb)).trans ((Heap.get?_update_other _ _ (Ne.symm hb)).trans (Heap.get?_push_of_some _ e))
    have hnew : h3.get? h'.objs.size = some (lstO (tot ++ c i) 0) := by
      rw [← hh3]
      exact (Heap.get?_update_other _ _ (Ne.symm hne)).trans ((Heap.get?_update_other _ _ (Ne.symm hne)).trans (Heap.get?_push_size _ rfl))
    have hS4 := Heap.get?_update_self (Obj.mapSeq fun _ => #[Value.ref h'.objs.size]) hS3 rfl
    refine wpAny_updateSeq hS3 rfl ?_
    rw [hh3] at hS4 ⊢
    refine wpAny_pure ⟨plainId_quiet PySem.F.plain_sum_loop _, ih (i + 1) _ h'.objs.size (tot ++ c i) _ 0 (by omega) hlt (W.frame _ _ _ hst' fun b hb o e => kk b o (fun h => hSf (by rw [← h]; exact hb)) e) (fun b o hb hbS e => kk b o hbS (hk' b o hb (hh b o hb hbS e))) hS4 hne hnw hnew (by rw [List.length_append]; omega) fun h'' tk'' T'' e'' hk'' hTT hL => ?_⟩
    rw [hb0, ← List.append_assoc] at hR
    refine hR h'' tk'' T'' e'' (fun b o hb hbS e => hk'' b o hb hbS (kk b o hbS (hk' b o hb e))) ?_ hL
    rcases hTT with rfl | hTT
    · exact .inr (Heap.lt_size hS')
    · exact .inr hTT
theorem sub_list_no (T : String) (h : T ∈ ["str", "bytes", "bytearray"]) : isSubtype (.type "list") (.type T) = pure false := by
  rw [isSubtype_type]
  simp only [List.mem_cons, List.not_mem_nil, or_false] at h
  rcases h with rfl | rfl | rfl <;> kernel_rfl
theorem args_sum2 (a b : Value) : argsOk "sum" ⟨[a, b], []⟩ := by unfold argsOk; kernel_rfl
theorem call_sum_lists {prog : Program} {w : World} {A : Around} {E : Value → Shared → Prop} {s : Shared} {l st : Addr} {its : List Value} {e0 : Nat} {Q : Value → Shared → Prop} (hh : A.handled = none) (hl : s.heap.IsList l its.toArray) (hst : s.heap.get? st = some (lstO [] e0)) (c : Nat → List Value)
    (hv : ∀ i v, its[i]? = some v → ∃ a, v = .ref a ∧ s.heap.IsList a (c i).toArray) (hz : (behind c its.length its.length).length ≤ sizeLine)
    (h : ∀ h' tk T e, (∀ b o, s.heap.get? b = some o → h'.get? b = some o) → (T = st ∨ s.heap.objs.size ≤ T) → h'.get? T = some (lstO (behind c its.length its.length) e) → Q (.ref T) { s with heap := h', toks := tk }) : wpAny (model prog w) A (call (.builtin "sum") [.ref l, .ref st]) Q E s := by
  refine call_function_tree PySem.F.kind_sum PySem.F.plain_sum PySem.F.entry_sum (args_sum2 _ _) ?_
  unfold Builtin.«sum»
  simp only [List.length_cons, List.length_nil]
  rw [if_neg (by decide)]
  refine wpAny_bind (wpAny_of_eq (show Builtin.Builtins.bindParams "sum" ["start"] 0 ⟨[.ref st], []⟩ = pure [some (.ref st)] from rfl) ?_)
  refine wpAny_bind (wpAny_pyIter_list hl ?_)
  refine wpAny_bind (wpAny_pure ?_)
  let s2 : Shared := { s with heap := s.heap.push { cls := .type "list_iterator", data := .fields #[.ref l, .int 0 0] } }
  have hl2 : s2.heap.IsList l its.toArray := hl.at fun o e => Heap.get?_push_of_some _ e
  have hst2 : s2.heap.get? st = some (lstO [] e0) := Heap.get?_push_of_some _ hst
  have hIt : s2.heap.IsListIter s.heap.objs.size l 0 := ⟨_, Heap.get?_push_size _ rfl, rfl, rfl⟩
  have ty : s2.TypeIs (.ref st) "list" := ⟨_, hst2, rfl⟩
  simp only [List.forIn_cons, List.forIn_nil]
  refine wpAny_bind (wpAny_bind (wpAny_bind (wpAny_isInstance (T := "list") (b := false) ty (sub_list_no _ (by simp)) ?_)))
  simp only [Bool.false_eq_true, if_false]
  refine wpAny_pure (wpAny_bind (wpAny_bind (wpAny_isInstance (T := "list") (b := false) ty (sub_list_no _ (by simp)) ?_)))
  simp only [Bool.false_eq_true, if_false]
  refine wpAny_pure (wpAny_bind (wpAny_bind (wpAny_isInstance (T := "list") (b := false) ty (sub_list_no _ (by simp)) ?_)))
  simp only [Bool.false_eq_true, if_false]
  refine wpAny_pure (wpAny_pure ?_)
  refine wpAny_bind (wpAny_newObj_type ?_)
  obtain ⟨ol, hol, _⟩ := id hl
  have hlS : l < s.heap.objs.size := Heap.lt_size hol
  have hne : l ≠ s.heap.objs.size := Nat.ne_of_lt hlS
  have sz2 : s2.heap.objs.size = s.heap.objs.size + 1 := Heap.size_push ..
  have hSf : s2.heap.objs.size ∉ [s.heap.objs.size, l] := by
    rw [sz2]
    simp only [List.mem_cons, List.not_mem_nil, or_false, not_or]
    exact ⟨Nat.succ_ne_self _, Nat.ne_of_gt (Nat.lt_succ_of_lt hlS)⟩
  have kp : ∀ b o, s2.heap.get? b = some o → (s2.heap.push { cls := .type "list", data := .seq #[.ref st] }).get? b = some o := fun b o e => Heap.get?_push_of_some _ e
  have old : ∀ b o, s.heap.get? b = some o → b ≠ s.heap.objs.size := fun b o e => Nat.ne_of_lt (Heap.lt_size e)
  have old2 : ∀ b o, s.heap.get? b = some o → b ≠ s2.heap.objs.size := fun b o e => by rw [sz2]; exact Nat.ne_of_lt (Nat.lt_succ_of_lt (Heap.lt_size e))
  refine wpAny_pure ⟨plainId_quiet PySem.F.plain_sum_loop _, sum_lists (n := its.length) (Walks.list (A := A.in1) hh s.heap.objs.size l hne its.toArray) (fun i h st b hb => ?_) c s2.heap.objs.size hSf s.heap (fun i v hi => ?_) its.length 0 _ st [] 0 e0 rfl (Nat.zero_le _)
    ⟨hIt.at fun o e => kp _ o e, hl2.at fun o e => kp _ o e⟩ (fun b o _ _ e => kp b o (Heap.get?_push_of_some _ e)) (Heap.get?_push_size _ rfl) ?_ ?_ (kp _ _ hst2) (by simpa using hz) fun h' tk T e hk hT ho => ?_⟩
  · rw [List.mem_singleton.mp hb]
    obtain ⟨o, ho, _⟩ := st.1
    exact ⟨o, ho⟩
  · obtain ⟨a, rfl, ha⟩ := hv i v (by simpa using hi)
    obtain ⟨oa, hoa, _⟩ := id ha
    exact ⟨a, rfl, by simpa using old a oa hoa, old2 a oa hoa, ha⟩
  · exact old2 st _ hst
  · simpa using old st _ hst
  · refine h h' tk T e (fun b o e => hk b o (by simpa using old b o e) (old2 b o e) (kp b o (Heap.get?_push_of_some _ e))) ?_ ho
    rcases hT with hT | hT
    · exact .inl hT
    · refine .inr ?_
      rw [sz2] at hT
      exact Nat.le_of_lt (Nat.lt_of_succ_lt hT)
def rSumL (K : KF) : List V → Hp → VK → Prop := fun vs H Q => ∃ (a b : Addr) (xs : List V) (yss : List (List V)), vs = [.ref a, .ref b] ∧ SqL K H a xs ∧ H b = some (.lst []) ∧ yss.length = xs.length ∧ (∀ (i : Nat) (x : V), xs[i]? = some x → ∃ q, x = .ref q ∧ SqL K H q (yss.getD i [])) ∧ yss.flatten.length ≤ sizeLine ∧
  ∀ p H', H' p = some (.lst yss.flatten) → (p = b ∧ H' = H ∨ H p = none ∧ H' = upd H p (.lst yss.flatten)) → Q (.ref p) H'
theorem behind_vals {yss : List (List V)} {c : Nat → List Value} (h : ∀ i, i < yss.length → Vals (yss.getD i []) (c i)) : ∀ k, k ≤ yss.length → Vals (yss.drop (yss.length - k)).flatten (behind c yss.length k)
  | 0, _ => by
    rw [Nat.sub_zero, List.drop_length]
    exact .nil
  | k + 1, hk => by
    have ih := behind_vals h k (by omega)
    have hi : yss.length - (k + 1) < yss.length := by omega
    have e : yss.drop (yss.length - (k + 1)) = yss.getD (yss.length - (k + 1)) [] :: yss.drop (yss.length - k) := by
      rw [List.drop_eq_getElem_cons hi, show yss.length - (k + 1) + 1 = yss.length - k from by omega]
      congr 1
      rw [List.getD_eq_getElem?_getD, List.getElem?_eq_getElem hi]
      rfl
    rw [e, List.flatten_cons]
    exact (h _ hi).append ih
theorem cr_sumL {X : Cx} (hc : X.calm = true) : CallR X (.builtin "sum") (rSumL X.K) := by
  intro pins s σ H vs us Q I r h
  obtain ⟨a, b, xs, yss, rfl, hs, hb, hl, hi, hz, q⟩ := h
  obtain ⟨its, rv, pl, _⟩ := I.list hs
  have hus : us = [.ref a, .ref b] := by
    cases r with
    | cons r1 r2 =>
      cases r2 with
      | cons r2 r3 =>
        cases r3
        cases r1
        cases r2
        rfl
  subst hus
  obtain ⟨_, bits, e0, bv, bo⟩ : ObjOk X.prog X.w H s.heap b (.lst []) := I.hok b _ hb
  cases bv
  have hlen := rv.length
  have hch : ∀ i, ∃ ci : List Value, i < yss.length → ∃ p, its[i]? = some (.ref p) ∧ s.heap.IsList p ci.toArray ∧ Vals (yss.getD i []) ci := fun i => by
    by_cases hlt : i < yss.length
    · have hx : xs[i]? = some xs[i] := List.getElem?_eq_getElem (by omega)
      obtain ⟨p, e, hq⟩ := hi i _ hx
      obtain ⟨u, hu, ru⟩ := rv.get hx
      rw [e] at ru
      obtain rfl : u = Value.ref p := ru
      obtain ⟨ci, rc, pc, _⟩ := I.list hq
      exact ⟨ci, fun _ => ⟨p, hu, pc.isList, rc⟩⟩
    · exact ⟨[], fun z => absurd z hlt⟩
  obtain ⟨c, hcc⟩ := Classical.axiomOfChoice hch
  have nl : its.length = yss.length := by omega
  have hv := behind_vals (fun i hlt => (hcc i hlt).elim fun _ z => z.2.2) yss.length (Nat.le_refl _)
  rw [Nat.sub_self, List.drop_zero] at hv
  refine call_sum_lists (I.ok.hd hc) pl.isList bo c (fun i v hiv => ?_) (by rw [nl, ← hv.length]; exact hz) fun h' tk T e hk hT ho => ?_
  · have hlt : i < yss.length := by
      have := (List.getElem?_eq_some_iff.mp hiv).1
      omega
    obtain ⟨p, h1, h2, _⟩ := hcc i hlt
    rw [hiv] at h1
    cases h1
    exact ⟨p, rfl, h2⟩
  · rw [nl] at ho
    rcases hT with rfl | hT
    · have h1 := hk _ _ bo
      rw [ho] at h1
      have h2 : behind c yss.length yss.length = [] := by
        have := congrArg (fun o : Option Obj => match o with | some ⟨_, _, .seq a _, _⟩ => a.toList | _ => []) h1
        simpa using this
      rw [h2] at hv
      have h3 : yss.flatten = [] := List.eq_nil_of_length_eq_zero (by rw [hv.length]; rfl)
      exact ⟨.ref T, H, I.kept hk, rfl, q T H (by rw [h3]; exact hb) (.inl ⟨rfl, rfl⟩)⟩
    · have hn : H T = none := I.hok.fresh hT
      exact ⟨.ref T, upd H T (.lst yss.flatten), I.laid hk hT ⟨hz, _, _, hv, ho⟩, rfl, q T _ upd_same (.inr ⟨hn, rfl⟩)⟩
section
variable {X : Cx} {K : KF} {e : Expr} {env : List Sl} {pos p1 p2 : Pos}
theorem flat_dq {F : Hp} {α : Type} {enc : α → PyData} : ∀ {xss : List (List α)} {vs : List V}, DqAll K F vs (xss.map (eL enc)) → ∃ yss : List (List V), yss.length = vs.length ∧ (∀ (i : Nat) (x : V), vs[i]? = some x → ∃ q, x = .ref q ∧ F q = some (.lst (yss.getD i []))) ∧ DqAll K F yss.flatten (xss.flatten.map enc)
  | [], _, h => by cases h; exact ⟨[], rfl, fun i x hx => by simp at hx, .nil⟩
  | l :: xss, _, h => by
    cases h with
    | cons h1 h2 =>
      obtain ⟨yss, a, b, c⟩ := flat_dq h2
      cases h1 with
      | @lst q ws _ o1 o2 =>
        refine ⟨ws :: yss, by simp [a], fun i x hx => ?_, ?_⟩
        · cases i with
          | zero => simp at hx; subst hx; exact ⟨q, rfl, o1⟩
          | succ i => simpa using b i x (by simpa using hx)
        · rw [List.flatten_cons, List.flatten_cons, List.map_append]
          exact o2.append c
theorem o_sumL {α : Type} {enc : α → PyData} {xss : List (List α)} (hm : X.mg "sum" = none) (h : PE X e (tE X.K true env (eL (eL enc) xss))) (hz : xss.flatten.length ≤ sizeLine) (hc : X.calm = true := by rfl) (hg : Gl X "sum" := by rfl) (hv : bootBuiltins "sum" = some (.builtin "sum") := by decide +kernel) (ns : NS X e := by exact fun _ => rfl) :
    PE X (.Call (.Name "sum" p1) [e, .List [] p2] [] pos) (tO X.K env (xss.flatten.map enc)) :=
  pmono (pe_callB (cr_sumL hc) hg hm hv (pa_cons h (pa_cons (o_nil (env := env)) pa_nil) (ns _)) (he := ns _)) fun σ H Q ⟨F0, H0, F, ok, k⟩ => ⟨F0, H0, F, ok, fun v F1 H1 g1 x1 => ⟨F0, H0, F1, ok.grow g1, fun b vs F2 H2 g2 b1 b2 b3 b4 => by
    cases b4
    cases (show Dq X.K F1 v (.list (xss.map (eL enc))) from x1) with
    | @lst a xs _ h1 h2 =>
      obtain ⟨yss, y1, y2, y3⟩ := flat_dq h2
      have z3 := y3.length
      rw [List.length_map] at z3
      refine ⟨a, b, xs, yss, rfl, sqOf (g2.hh _ _ (g1.fh _ _ h1)), b3, y1, fun i x hx => ?_, by omega, fun p H' hp hH => ?_⟩
      · obtain ⟨q, e1, e2⟩ := y2 i x hx
        exact ⟨q, e1, sqOf (g2.hh _ _ (g1.fh _ _ e2))⟩
      · rcases hH with ⟨rfl, rfl⟩ | ⟨hn, rfl⟩
        · exact k p _ F2 _ (g1.trans g2) (g1.hh.back b1) b2 hp (y3.up g2.ff)
        · exact k p _ F2 _ ((g1.trans g2).trans (Grow.own g2.fh hn)) ((g1.trans g2).hh.back hn) (g2.fh.back hn) hp (y3.up g2.ff)⟩⟩
end
end D3
namespace D3
open PySem PySem.Spec L2 PyProof.Rows

/-! ### sorted(set([a, b, ..])) -/
section
variable {P : Program} {w : World} {A : Around} {E : Value → Shared → Prop} {s : Shared}
abbrev setE (w : World) : Obj := { cls := .type "set", dict := none, data := .set #[] 0 (.fresh 0 0 (!w.params.followText "set-order")) }
theorem set_of_list {l : Addr} {items : Array Value} (ns : List Int) {Q : Value → Shared → Prop} (hh : A.handled = none) (hl : s.heap.IsList l items) (hit : IntsAre items.toList ns) (hb : ns.length + 1 < scanBound)
    (h : ∀ (h' : Heap) (tk c : Nat), SetR w h' s.heap.objs.size (fun j => decide (j ∈ ns)) c → c ≤ ns.length → (∀ b o, s.heap.get? b = some o → h'.get? b = some o) → Q (.ref s.heap.objs.size) { s with heap := h', toks := tk }) :
    wpAny (model P w) A (call (.type "set") [.ref l]) Q E s := by
  have hisz : items.size = ns.length := by
    rw [← Array.length_toList]
    exact IntsAre.length hit
  obtain ⟨c, tl, hmro⟩ := PySem.F.called_set.mro
  have hm1 := PySem.F.called_set.made
  have hs1 := PySem.F.called_set.sub
  refine wpAny_call (codeAny_of_tree (show wpAny _ _ (callAny (.type "set") _) _ _ _ from wpAny_pure ⟨Code.quiet_builtin _ (by decide +kernel), codeAny_builtin PySem.F.entry_type_call ?_⟩))
  rw [Around.under_plain (weight_type_call_type "set" [.ref l] []) rfl]
  have hn1 := PySem.F.called_set.notType
  have hc1 := PySem.F.called_set.canCreate
  have ht1 := PySem.F.typeCall_set_1 (.ref l)
  repeat (any_goals (first | assumption | wp_step))
  refine codeAny_mono (code_set_led1 (.ref l) (E := E) (Q₁ := fun obj s₁ => obj = .ref s.heap.objs.size ∧ s₁ = { s with heap := s.heap.push (setE w) }) ⟨rfl, rfl⟩) fun r s₁ hr => ?_
  cases r with
  | error e => exact hr
  | ok fl =>
    cases fl with
    | ret obj =>
      obtain ⟨rfl, rfl⟩ := hr
      have hS : (s.heap.push (setE w)).get? s.heap.objs.size = some (setE w) := Heap.get?_push_size _ rfl
      have hT : Shared.TypeIs { s with heap := s.heap.push (setE w) } (.ref s.heap.objs.size) "set" := ⟨_, hS, rfl⟩
      have hi1 := PySem.F.called_set.init.lookup
      have hb1 := PySem.F.called_set.init.bind (.ref s.heap.objs.size)
      repeat (any_goals (first | assumption | wp_step))
      refine codeAny_mono (codeAny_call_builtin (R := wants (fun r s₂ => r = .none ∧ ∃ h' tk c, s₂ = { s with heap := h', toks := tk } ∧ SetR w h' s.heap.objs.size (fun j => decide (j ∈ ns)) c ∧ c ≤ ns.length ∧ (∀ b o, s.heap.get? b = some o → h'.get? b = some o)) E)
        PySem.F.called_set.init.plain PySem.F.entry_set_init (check_set_init_1 hT ?_)) fun r₂ s₂ hr₂ => ?_
      · obtain ⟨⟨oc, od, odt, osl⟩, hol, hcl, nl, hdl⟩ := hl
        simp only at hcl hdl
        subst hcl hdl
        have hol' : (s.heap.push (setE w)).get? l = some { cls := .type "list", dict := od, data := .seq items nl, slots := osl } := Heap.get?_push_of_some _ hol
        have f1 := PySem.F.sub_list_set
        have f2 := PySem.F.sub_list_frozenset
        have f3 : (Value.type "list" == Value.type "dict") = false := by decide
        have hl1 : (s.heap.push (setE w)).IsList l items := ⟨_, hol', rfl, nl, rfl⟩
        unfold Builtin.«set.__init__» noKeywords Builtin.Frozenset.updateFrom
        generalize hPI : pyIter = PI
        wp_walk
        subst hPI
        refine wpAny_pyIter_list hl1 (wpAny_bind (wpAny_runValue ?_))
        have hlS : l < s.heap.objs.size := Heap.lt_size hol
        have sz : (s.heap.push (setE w)).objs.size = s.heap.objs.size + 1 := Heap.size_push ..
        have hneI : l ≠ (s.heap.push (setE w)).objs.size := by rw [sz]; exact Nat.ne_of_lt (Nat.lt_succ_of_lt hlS)
        have hSf : s.heap.objs.size ∉ [(s.heap.push (setE w)).objs.size, l] := by
          rw [sz]
          simp only [List.mem_cons, List.not_mem_nil, or_false, not_or]
          exact ⟨Nat.ne_of_lt (Nat.lt_succ_self _), Nat.ne_of_gt hlS⟩
        refine set_update_ints ((Walks.list (show A.in1.in1.in1.handled = none by simp [hh]) _ l hneI items).toS) s.heap.objs.size hSf ns hisz hb (fun i v hv => ?_) (items.size - 0) 0 _ (by omega) (Nat.zero_le _) ⟨⟨_, Heap.get?_push_size _ rfl, rfl, rfl⟩, (hl1.push _)⟩ ⟨0, Nat.le_refl 0, setR_new_at (Heap.get?_push_of_some _ hS)⟩ ?_
        · have hi : i < ns.length := by rw [← hisz]; exact (Array.getElem?_eq_some_iff.mp hv).1
          obtain ⟨t, e⟩ := IntsAre.int_at hit i v (by rw [Array.getElem?_toList]; exact hv)
          exact ⟨ns[i], t, List.getElem?_eq_getElem hi, by rw [e, List.getD_eq_getElem?_getD, List.getElem?_eq_getElem hi] <;> rfl⟩
        · intro s' c' hm hc' hS'
          obtain ⟨h', g2, d', tk', os'⟩ := s'
          obtain rfl : g2 = s.gens := hm.gens
          obtain rfl : d' = s.drawn := hm.drawn
          obtain rfl : os' = s.os := hm.os
          show wpAny _ _ _ _ _ _
          refine wpAny_pure ?_
          show wpAny _ _ (ret Value.none) _ _ _
          rw [hisz] at hc'
          refine wpAny_pure ⟨rfl, h', tk', c', rfl, hS', hc', fun b o e => ?_⟩
          have h0 := Heap.lt_size e
          refine hm.heap b o ?_ (Heap.get?_push_of_some _ (Heap.get?_push_of_some _ e))
          rw [sz]
          simp only [List.mem_cons, List.not_mem_nil, or_false, not_or]
          exact ⟨Nat.ne_of_lt h0, Nat.ne_of_lt (Nat.lt_succ_of_lt h0)⟩
      · cases r₂ with
        | error e => exact hr₂
        | ok fl₂ =>
          cases fl₂ with
          | ret r =>
            obtain ⟨rfl, h', tk, c', rfl, hS', hc', hk'⟩ := hr₂
            repeat (any_goals (first | assumption | wp_step))
            exact h _ _ _ hS' hc' hk'
          | _ => exact hr₂.elim
    | _ => exact hr.elim
end
def insU (k : Int) : List Int → List Int
  | [] => [k]
  | x :: xs => if k < x then k :: x :: xs else if k = x then x :: xs else x :: insU k xs
def sortU (ns : List Int) : List Int := ns.foldr insU []
theorem insU_mem (k : Int) : ∀ (xs : List Int) (j : Int), j ∈ insU k xs ↔ j = k ∨ j ∈ xs
  | [], j => by simp [insU]
  | x :: xs, j => by
    unfold insU
    split
    · simp
    · split
      · rename_i h; subst h; simp
      · simp [insU_mem k xs j]
        constructor
        · rintro (h | h | h)
          · exact .inr (.inl h)
          · exact .inl h
          · exact .inr (.inr h)
        · rintro (h | h | h)
          · exact .inr (.inl h)
          · exact .inl h
          · exact .inr (.inr h)
theorem insU_srt (k : Int) : ∀ (xs : List Int), xs.Pairwise (· < ·) → (insU k xs).Pairwise (· < ·)
  | [], _ => by simp [insU]
  | x :: xs, h => by
    obtain ⟨h1, h2⟩ := List.pairwise_cons.mp h
    unfold insU
    split
    · rename_i hk
      refine List.pairwise_cons.mpr ⟨fun y hy => ?_, h⟩
      rcases List.mem_cons.mp hy with rfl | hy
      · exact hk
      · exact Int.lt_trans hk (h1 y hy)
    · split
      · exact h
      · refine List.pairwise_cons.mpr ⟨fun y hy => ?_, insU_srt k xs h2⟩
        rcases (insU_mem k xs y).mp hy with rfl | hy
        · omega
        · exact h1 y hy
theorem sortU_mem : ∀ (ns : List Int) (j : Int), j ∈ sortU ns ↔ j ∈ ns
  | [], j => by simp [sortU]
  | n :: ns, j => by
    show j ∈ insU n (sortU ns) ↔ _
    rw [insU_mem, sortU_mem ns, List.mem_cons]
theorem sortU_srt : ∀ (ns : List Int), (sortU ns).Pairwise (· < ·)
  | [] => .nil
  | n :: ns => insU_srt n _ (sortU_srt ns)
theorem srt_ext : ∀ {xs ys : List Int}, xs.Pairwise (· < ·) → ys.Pairwise (· < ·) → (∀ k, k ∈ xs ↔ k ∈ ys) → xs = ys
  | [], [], _, _, _ => rfl
  | [], y :: ys, _, _, h => absurd ((h y).mpr (List.mem_cons_self ..)) (by simp)
  | x :: xs, [], _, _, h => absurd ((h x).mp (List.mem_cons_self ..)) (by simp)
  | x :: xs, y :: ys, hx, hy, h => by
    obtain ⟨a1, a2⟩ := List.pairwise_cons.mp hx
    obtain ⟨b1, b2⟩ := List.pairwise_cons.mp hy
    have e : x = y := by
      have h1 := (h x).mp (List.mem_cons_self ..)
      have h2 := (h y).mpr (List.mem_cons_self ..)
      rcases List.mem_cons.mp h1 with h1 | h1
      · exact h1
      · rcases List.mem_cons.mp h2 with h2 | h2
        · exact h2.symm
        · have := b1 x h1
          have := a1 y h2
          omega
    subst e
    congr 1
    refine srt_ext a2 b2 fun k => ⟨fun hk => ?_, fun hk => ?_⟩
    · have h1 := a1 k hk
      rcases List.mem_cons.mp ((h k).mp (List.mem_cons_of_mem _ hk)) with h2 | h2
      · omega
      · exact h2
    · have h1 := b1 k hk
      rcases List.mem_cons.mp ((h k).mpr (List.mem_cons_of_mem _ hk)) with h2 | h2
      · omega
      · exact h2
theorem nodup_len : ∀ {l m : List Int}, l.Nodup → (∀ x ∈ l, x ∈ m) → l.length ≤ m.length
  | [], _, _, _ => Nat.zero_le _
  | a :: l, m, h, hs => by
    obtain ⟨h1, h2⟩ := List.nodup_cons.mp h
    have ha := hs a (List.mem_cons_self ..)
    have := nodup_len (l := l) (m := m.erase a) h2 fun x hx => by
      rw [List.mem_erase_of_ne (show x ≠ a from fun e => h1 (e ▸ hx))]
      exact hs x (List.mem_cons_of_mem _ hx)
    rw [List.length_erase_of_mem ha] at this
    have := List.length_pos_of_mem ha
    rw [List.length_cons]
    omega
theorem setR_len {w : World} {h : Heap} {a : Addr} {ns : List Int} {c : Nat} (R : SetR w h a (fun j => decide (j ∈ ns)) c) : c ≤ (sortU ns).length := by
  obtain ⟨o, es, ep, t, _, _, _, _, hn, hk, _, _, hc, _⟩ := R
  rw [← hc, ← Array.length_toList, ← List.length_map (f := keyOf)]
  exact nodup_len hn fun x hx => (sortU_mem ns x).mpr (by simpa using (hk x).mpr hx)
def rSetL (K : KF) (w : World) : List V → Hp → VK → Prop := fun vs H Q => ∃ (a : Addr) (ns : List Int), vs = [V.ref a] ∧ SqL K H a (ns.map V.int) ∧ ns.length + 1 < scanBound ∧ ∀ p n, H p = none → n ≤ (sortU ns).length → Q (.ref p) (upd H p (SetO w p (fun j => decide (j ∈ ns)) n))
theorem cr_setL {X : Cx} (hc : X.calm = true) : CallR X (.type "set") (rSetL X.K X.w) := by
  intro pins s σ H vs us Q I r h
  obtain ⟨a, ns, rfl, hs, hb, q⟩ := h
  obtain ⟨its, rv, pl, _⟩ := I.list hs
  rw [Vals.ref1 r]
  refine set_of_list ns (I.ok.hd hc) pl.isList rv.ints hb fun h' tk c R hcl k => ?_
  exact ⟨.ref _, _, I.laid k (Nat.le_refl _) (setO_new R), rfl, q _ c (I.hok.fresh (Nat.le_refl _)) (setR_len R)⟩
section
variable {X : Cx} {K : KF} {e : Expr} {env : List Sl} {pos p1 p2 p3 : Pos}
theorem o_sortedSet {ns : List Int} (hm : X.mg "sorted" = none) (hm2 : X.mg "set" = none) (h : PE X e (tL X.K env (ns.map .int))) (hz : ns.length < 4000 ∧ (sortU ns).length < 60) (hc : X.calm = true := by rfl) (hg : Gl X "sorted" := by rfl) (hg2 : Gl X "set" := by rfl)
    (hv : bootBuiltins "sorted" = some (.builtin "sorted") := by decide +kernel) (hv2 : bootBuiltins "set" = some (.type "set") := by decide +kernel) (ns' : NS X e := by exact fun _ => rfl) :
    PE X (.Call (.Name "sorted" p1) [.Call (.Name "set" p2) [e] [] p3] [] pos) (tO X.K env ((sortU ns).map .int)) :=
  pmono (pe_callB (cr_sortedSet hc) hg hm hv (pa_cons (pe_callTy (cr_setL hc) hg2 hm2 hv2 (pa_cons h pa_nil (ns' [])) (he := ns' [])) pa_nil)) fun σ H Q ⟨F0, H0, F, ok, k⟩ => ⟨F0, H0, F, ok, fun a vs F1 H1 g1 x y =>
    ⟨a, ns, rfl, by rw [DqAll.ints y] at x; exact sqOf x, by unfold scanBound; omega, fun p n hp hn => ⟨p, _, n, rfl, upd_same, by omega, fun zs q h1 h2 h3 hq => by
      have e : zs = sortU ns := srt_ext h1 (sortU_srt ns) fun k => (h2 k).trans (by rw [sortU_mem]; simp)
      subst e
      have g2 : Grow F1 H1 F1 (upd H1 p (SetO X.w p (fun j => decide (j ∈ ns)) n)) := Grow.own g1.fh hp
      exact k q _ F1 _ ((g1.trans g2).trans (Grow.own g2.fh hq)) ((g1.trans g2).hh.back hq) (g2.fh.back hq) upd_same (DqAll.ofInts _)⟩⟩⟩
end
end D3
namespace D3
open PySem PySem.Spec L2 PyProof.Rows
section
variable {X : Cx} {K : KF} {e a b c : Expr} {m m1 m2 m3 : Bool} {env : List Sl} {pos p p1 p2 p3 : Pos} {E : DE} {st : Stmt} {rest : List Stmt}
/-! ### loops that keep a fact P of the turns -/
theorem c_forTP {α : Type} {enc : α → PyData} {zs : List α} {tg iter : Expr} {g : TG} {ix : List Nat} {f : α → List Sl → List Sl} {body : List Stmt} (U : Nat → List (Nat × Sl)) (Pr : Nat → Prop) (hp : PassesOwn (model X.prog X.w) X.A X.env X.xe) (hi : PI X tg iter (tI X.K env (zs.map enc))) (hg : PG X tg g)
    (hf : ∀ z ∈ zs, Asg X.K g (enc z) (f z) ix) (hfl : ∀ z e1 e2, LeE e1 e2 → LeE (f z e1) (f z e2)) (h0 : LeE env (setAll env (U 0))) (p0 : Pr 0)
    (hb : ∀ (i : Nat) z, zs[i]? = some z → Pr i → PSs X body (tS X.K (f z (setAll env (U i))) ⟨fun e => Pr (i + 1) ∧ LeE e (setAll env (U (i + 1))), E.rt, fun e => PSs X rest (tS X.K e E), fun e => Pr (i + 1) ∧ LeE e (setAll env (U (i + 1)))⟩)) (hd : Pr zs.length → PSs X rest (tS X.K (setAll env (U zs.length)) E))
    (hc : X.calm = true := by rfl) (hs : ∀ x, foldedSetIterable iter X.env x = pure x := by intro _; rfl) : PSs X (.For tg iter body [] pos :: rest) (tS X.K env E) :=
  s_cons (M := fun e => PSs X rest (tS X.K e E)) (s_for (E := E.to fun e => PSs X rest (tS X.K e E)) (fun i e => Pr i ∧ LeE e (setAll env (U i))) hp hi hg hf ⟨p0, h0⟩ (fun i z env' hz hI => s_le (hfl z _ _ hI.2) (hb i z hz hI.1)) (fun e he => s_le he.2 (hd he.1)) hc hs) fun e q => q
theorem c_forRP {j : Nat} {n : Int} {body : List Stmt} {y : Str} (U : Nat → List (Nat × Sl)) (Pr : Nat → Prop) (hp : PassesOwn (model X.prog X.w) X.A X.env X.xe) (hm : X.mg "range" = none) (ha : PE X a (tE X.K true env (.int n))) (hj : -(2 ^ 62) ≤ n ∧ n < 2 ^ 62)
    (hN : X.N.Nodup) (hi : X.N[j]? = some y) (h0 : LeE env (setAll env (U 0))) (p0 : Pr 0)
    (hb : ∀ i : Nat, (i : Int) < n → Pr i → PSs X body (tS X.K ((setAll env (U i)).set j (.dat (.int (i : Int)))) ⟨fun e => Pr (i + 1) ∧ LeE e (setAll env (U (i + 1))), E.rt, fun e => PSs X rest (tS X.K e E), fun e => Pr (i + 1) ∧ LeE e (setAll env (U (i + 1)))⟩)) (hd : Pr n.toNat → PSs X rest (tS X.K (setAll env (U n.toNat)) E))
    (hc : X.calm = true := by rfl) (hx : Loc X.env.scope y := by first | exact .inl rfl | exact .inr rfl) (hf : X.fn y = true ∨ X.env.scope.names.lookup y = some .local := by first | exact .inl rfl | exact .inr rfl)
    (hs : ∀ x, foldedSetIterable (.Call (.Name "range" p) [a] [] p1) X.env x = pure x := by intro _; rfl) (hg : Gl X "range" := by rfl) (na : NS X a := by exact fun _ => rfl) : PSs X (.For (.Name y p3) (.Call (.Name "range" p) [a] [] p1) body [] pos :: rest) (tS X.K env E) := by
  have h := c_forTP (X := X) (E := E) (rest := rest) (pos := pos) (body := body) (tg := .Name y p3) (zs := List.range n.toNat) (enc := fun (i : Nat) => PyData.int (i : Int)) (f := fun (i : Nat) e => e.set j (.dat (.int (i : Int)))) U Pr hp (i_rngN (p1 := p) (pos := p1) hm ha hj hg na) (pg_name hN hi hx hf) (fun z _ => asg_nameA _) (fun z e1 e2 h => LeE.set_ h) h0 p0
    (fun i z hz hP => by
      have hi' : i < n.toNat := by simpa using (List.getElem?_eq_some_iff.mp hz).1
      have hz' : z = i := by
        rw [List.getElem?_range hi'] at hz
        exact (Option.some.inj hz).symm
      subst hz'
      exact hb z (by omega) hP) (by rw [List.length_range]; exact hd) hc hs
  exact h
variable {x : Str}
theorem s_setIxG {α : Type} {enc : α → PyData} {zs : List α} {z : α} {j : Int} (i : Nat) (ho : env[i]? = some (.own (zs.map enc))) (he : PE X e (tE X.K true env (enc z))) (hb : PE X b (tE X.K true env (.int j))) (hj : 0 ≤ j ∧ j < zs.length) (h : E.nx (env.set i (.own ((zs.set j.toNat z).map enc)))) (hi : X.N[i]? = some x := by rfl) (hv : Vis X.env.scope x := by first | exact .inl rfl | exact .inr (.inl rfl) | exact .inr (.inr rfl))
    (hd : (x == ("__debug__" : Str)) = false := by decide) (hcd : (x == ("__classdict__" : Str)) = false := by decide)
    (ha : ∀ v, assign (.Subscript (.Name x p1) b p2) X.env v = (do
      let ov ← holding [v] (eval (.Name x p1) X.env)
      let iv ← holding [v, ov] (eval b X.env)
      standAt p2
      holding [v, ov, iv] (setItem ov iv v)
      release [v, ov, iv] []) := by intro _; rfl)
    (hs : swapsWithSole [.Subscript (.Name x p1) b p2] e pos.line X.env = pure false := by rfl) (hw : swappedStores [.Subscript (.Name x p1) b p2] e X.env = pure none := by rfl) : PS X (.Assign [.Subscript (.Name x p1) b p2] e pos) (tS X.K env E) :=
  s_setIxD i ho he hb (by rw [List.length_map]; exact hj) (by rw [setMap]; exact h) hi hv hd hcd ha hs hw
end
end D3
namespace D3
open PySem PySem.Spec L2 PyProof.Rows

/-! ### new trees: what a def makes, what its caller may change -/
section
variable {K : KF} {F F' H H' H0 F0 : Hp} {Φ Φ' Φc : Reg} {env : List Sl} {σ : St} {c : Nat}
theorem VT.upE {e e' : Nat} (x : ∀ a vs, SqT K F a vs → SqT K F' a vs) (g : ∀ a n t, Φ a = some (e, n, t) → Φ' a = some (e', n, t)) : ∀ (t : Ty) (v : V), VT K F Φ e t v → VT K F' Φ' e' t v
  | .any, _, _ => trivial
  | .int, _, h => h
  | .L n t, v, ⟨a, h1, h2⟩ => ⟨a, h1, g a _ _ h2⟩
  | .T n f, v, ⟨a, vs, h1, h2, hn, h3⟩ => ⟨a, vs, h1, x a vs h2, hn, fun i w hw => VT.upE x g (f i) w (h3 i w hw)⟩
def treeS : Sl → Prop
  | .mes _ _ _ _ | .ownN _ _ | .itm _ _ _ _ _ _ | .tab _ _ _ _ _ | .tr _ _ => True
  | _ => False
theorem Ok.setT (o : Ok K F0 H0 env σ F H) {i : Nat} {s : Sl} {x : Option V} (hs : treeS s) (ht : ∃ Φ c, Mes K H0 (env.set i s) (σ.set i x) F H Φ c) : Ok K F0 H0 (env.set i s) (σ.set i x) F H where
  g := o.g
  dat := fun j e h => by
    rcases get_set_cases h with ⟨_, _, q⟩ | ⟨ne, q⟩
    · subst q; exact hs.elim
    · rw [List.getElem?_set_ne ne]; exact o.dat j e q
  own := fun j e h => by
    rcases get_set_cases h with ⟨_, _, q⟩ | ⟨ne, q⟩
    · subst q; exact hs.elim
    · rw [List.getElem?_set_ne ne]; exact o.own j e q
  sep := fun j k ds es p h1 h2 h3 h4 => by
    rcases get_set_cases h1 with ⟨_, _, q⟩ | ⟨ne, q⟩
    · subst q; exact hs.elim
    · rcases get_set_cases h2 with ⟨_, _, q'⟩ | ⟨ne', q'⟩
      · subst q'; exact hs.elim
      · rw [List.getElem?_set_ne ne] at h3
        rw [List.getElem?_set_ne ne'] at h4
        exact o.sep j k ds es p q q' h3 h4
  scr := fun j e h => by
    rcases get_set_cases h with ⟨_, _, q⟩ | ⟨ne, q⟩
    · subst q; exact hs.elim
    · rw [List.getElem?_set_ne ne]; exact o.scr j e q
  exc := fun j a2 dd2 e h => by
    rcases get_set_cases h with ⟨_, _, q⟩ | ⟨ne, q⟩
    · subst q; exact hs.elim
    · rw [List.getElem?_set_ne ne]; exact o.exc j a2 dd2 e q
  len := by rw [List.length_set, List.length_set, o.len]
  tre := ht
/-- the list p of a tree or of a slot changes -/
theorem Ok.putT (o : Ok K F0 H0 env σ F H) {p : Addr} {us vs : List V} {env' : List Sl} (hf : F p = none) (h0 : H0 p = none) (hh : H p = some (.lst us)) (hn : ∀ (j : Nat) (es : List PyData), env'[j]? = some (.own es) → σ[j]? ≠ some (some (.ref p)))
    (he : ∀ (j : Nat) (s : Sl), env'[j]? = some s → treeS s ∨ s = .no ∨ env[j]? = some s) (hl : env'.length = env.length) (ht : ∃ Φ c, Mes K H0 env' σ F (upd H p (.lst vs)) Φ c) : Ok K F0 H0 env' σ F (upd H p (.lst vs)) where
  g := o.g.put h0 hf
  dat := fun j d h => o.dat j d (((he j _ h).resolve_left fun z => z.elim).resolve_left fun z => by cases z)
  own := fun j d h => by
    obtain ⟨q, ws, h1, h2, h3, h4, h5⟩ := o.own j d (((he j _ h).resolve_left fun z => z.elim).resolve_left fun z => by cases z)
    have hne : q ≠ p := fun z => hn j d h (z ▸ h1)
    exact ⟨q, ws, h1, h2, h3, by rw [upd_ne hne]; exact h4, h5⟩
  sep := fun j k ds es q h1 h2 h3 h4 => o.sep j k ds es q (((he j _ h1).resolve_left fun z => z.elim).resolve_left fun z => by cases z) (((he k _ h2).resolve_left fun z => z.elim).resolve_left fun z => by cases z) h3 h4
  scr := fun j d h => o.scr j d (((he j _ h).resolve_left fun z => z.elim).resolve_left fun z => by cases z)
  exc := fun j a dd d h => by
    obtain ⟨v, h1, h2, h3⟩ := o.exc j a dd d (((he j _ h).resolve_left fun z => z.elim).resolve_left fun z => by cases z)
    exact ⟨v, h1, by rw [upd_ne (fun z => by rw [z, hh] at h2; cases h2)]; exact h2, h3⟩
  len := by rw [hl, o.len]
  tre := ht
/-- a value of a tree into a slot -/
theorem Mes.setM {i : Nat} {s : Sl} {v : V} (m : Mes K H0 env σ F H Φ c) (hi : i < σ.length) (hs : (∃ e t d, s = .mes e c t d ∧ VT K F Φ e t v ∧ ∀ x, d = some x → Dq K (mixH F Φ e H) v x) ∨ ∃ a vs e n t, s = .itm a vs e c n t ∧ H a = some (.lst vs) ∧ Φ a = some (e, n, t) ∧ VT K F Φ e t v) : Mes K H0 (env.set i s) (σ.set i (some v)) F H Φ c := by
  have hno : (∀ ds, s ≠ .own ds) ∧ ∀ t ds, s ≠ .ownN t ds := by
    rcases hs with ⟨_, _, _, rfl, _⟩ | ⟨_, _, _, _, _, rfl, _⟩
    · exact ⟨(fun _ z => by cases z), (fun _ _ z => by cases z)⟩
    · exact ⟨(fun _ z => by cases z), (fun _ _ z => by cases z)⟩
  have key : ∀ j q, OwnS (env.set i s) (σ.set i (some v)) j q → i ≠ j ∧ OwnS env σ j q := fun j q ⟨h1, h2⟩ => by
    have hne : i ≠ j := fun z => by
      subst z
      rcases h2 with ⟨ds, h2⟩ | ⟨t, ds, h2⟩
      · rcases get_set_cases h2 with ⟨_, _, q⟩ | ⟨q, _⟩
        · exact hno.1 _ q
        · exact q rfl
      · rcases get_set_cases h2 with ⟨_, _, q⟩ | ⟨q, _⟩
        · exact hno.2 _ _ q
        · exact q rfl
    rw [List.getElem?_set_ne hne] at h1 h2
    exact ⟨hne, h1, h2⟩
  refine ⟨m.reg, fun j q h => m.own j q (key j q h).2, fun j k q h1 h2 => m.sep j k q (key j q h1).2 (key k q h2).2, fun j e c' t d h => ?_, fun j a ws e c' n t h => ?_, fun j t ds h => ?_, fun j e c' n m' dss h => ?_, m.tr.of (fun j v t h => ?_) (Ex.refl _) fun a z => ⟨z, fun _ y => y⟩⟩
  · rcases get_set_cases h with ⟨z0, _, q⟩ | ⟨ne, q⟩
    · subst z0
      rcases hs with ⟨e1, t1, d1, rfl, h1, h2⟩ | ⟨_, _, _, _, _, rfl, _⟩
      · cases q
        exact ⟨rfl, v, List.getElem?_set_self hi, h1, h2⟩
      · cases q
    · rw [List.getElem?_set_ne ne]; exact m.mes j e c' t d q
  · rcases get_set_cases h with ⟨z0, _, q⟩ | ⟨ne, q⟩
    · subst z0
      rcases hs with ⟨e1, t1, d1, rfl, h1, h2⟩ | ⟨a1, vs1, e1, n1, t1, rfl, h1, h2, h3⟩
      · cases q
      · cases q
        exact ⟨rfl, h1, h2, v, List.getElem?_set_self hi, h3⟩
    · rw [List.getElem?_set_ne ne]; exact m.itm j a ws e c' n t q
  · rcases get_set_cases h with ⟨z0, _, q⟩ | ⟨ne, q⟩
    · exact absurd q (hno.2 _ _)
    · rw [List.getElem?_set_ne ne]; exact m.ownN j t ds q
  · rcases get_set_cases h with ⟨z0, _, q⟩ | ⟨ne, q⟩
    · subst z0
      rcases hs with ⟨e1, t1, d1, rfl, h1, h2⟩ | ⟨a1, vs1, e1, n1, t1, rfl, h1, h2, h3⟩ <;> cases q
    · rw [List.getElem?_set_ne ne]; exact m.tab j e c' n m' dss q
  · rcases get_set_cases h with ⟨_, _, q⟩ | ⟨ne, q⟩
    · rcases hs with ⟨_, _, _, rfl, _⟩ | ⟨_, _, _, _, _, rfl, _⟩ <;> cases q
    · exact ⟨q, List.getElem?_set_ne ne⟩
def NewR (K : KF) (H F' : Hp) (Φ Φ' : Reg) : Prop := ∀ (a : Addr) (e n : Nat) (t : Ty), Φ' a = some (e, n, t) → Φ a = none → e = 0 ∧ H a = none ∧ ∃ vs, F' a = some (.lst vs) ∧ vs.length ≤ n ∧ ∀ w ∈ vs, VT K F' Φ' 0 t w
theorem Mes.growN (m : Mes K H0 env σ F H Φ c) (g : Grow F H F' H') (xfh : Ex F H) (hh : Ex H0 H) (xr : ExR Φ Φ') (nr : NewR K H F' Φ Φ') : Mes K H0 env σ F' H' Φ' c :=
  m.growR g xfh hh xr fun a e n t h1 h2 => by
    obtain ⟨rfl, b, vs, h3, h4, h5⟩ := nr a e n t h1 h2
    exact ⟨b, fun _ => ⟨vs, h3, h4⟩, fun z => absurd rfl z, vs, g.fh _ _ h3, by omega, h5⟩
end
/-- an expression that gives a new tree -/
def tF (K : KF) (t : Ty) (env : List Sl) (d : PyData) : TE := fun σ H Q => ∃ F0 H0 F, Ok K F0 H0 env σ F H ∧ ∀ v F' H' Φ, Grow F H F' H' → FreshR K H F' Φ → Dq K F' v d → VT K F' Φ 0 t v → Q v H'
/-- .. that gives a value of the trees that this def makes -/
def tN (K : KF) (t : Ty) (env : List Sl) (d : PyData) : TE := fun σ H Q => ∃ F0 H0 F Φ c, Ok K F0 H0 env σ F H ∧ Mes K H0 env σ F H Φ c ∧ ∀ v F' H' Φ', Grow F H F' H' → ExR Φ Φ' → NewR K H F' Φ Φ' → Dq K F' v d → VT K F' Φ' 0 t v → Q v H'
section
variable {X : Cx} {K : KF} {e a b e1 e2 : Expr} {es : List Expr} {env : List Sl} {d : PyData} {ds rs : List PyData} {pos p1 p2 p3 p : Pos} {t : Ty} {E : DE} {rest sts : List Stmt} {k n : Nat} {x y : Str}
theorem f_o {n : Nat} (h : PE X e (tO K env ds)) (hl : ds.length ≤ n) : PE X e (tF K (.L n .any) env (.list ds)) := pmono h fun σ H Q ⟨F0, H0, F, ok, q⟩ => ⟨F0, H0, F, ok, fun p vs F1 H1 g h1 h2 h3 h4 =>
  q (.ref p) (upd F1 p (.lst vs)) H1 (fun a => if a = p then some (0, n, .any) else none) ⟨g.ff.trans (Ex.new h2), g.hh, g.fh.at_ h3, fun a h0 h1' => by
    by_cases ha : a = p
    · subst ha; exact absurd h1 h1'
    · rw [upd_ne ha]; exact g.old a h0 h1'⟩ (fun a e m t h => by
    by_cases ha : a = p
    · subst ha
      simp only [if_true] at h
      cases h
      exact ⟨rfl, h1, vs, upd_same, by rw [h4.length]; exact hl, fun _ _ => trivial⟩
    · simp only [if_neg ha] at h; cases h) (.lst upd_same (h4.up (Ex.new h2))) ⟨p, rfl, by simp⟩⟩
theorem f_oI {n : Nat} {ns : List Int} (h : PE X e (tO K env (ns.map .int))) (hl : ns.length ≤ n) : PE X e (tF K (.L n .int) env (eL .int ns)) := pmono h fun σ H Q ⟨F0, H0, F, ok, q⟩ => ⟨F0, H0, F, ok, fun p vs F1 H1 g h1 h2 h3 h4 =>
  q (.ref p) (upd F1 p (.lst vs)) H1 (fun a => if a = p then some (0, n, .int) else none) ⟨g.ff.trans (Ex.new h2), g.hh, g.fh.at_ h3, fun a h0 h1' => by
    by_cases ha : a = p
    · subst ha; exact absurd h1 h1'
    · rw [upd_ne ha]; exact g.old a h0 h1'⟩ (fun a e m t h => by
    by_cases ha : a = p
    · subst ha
      simp only [if_true] at h
      cases h
      refine ⟨rfl, h1, vs, upd_same, by rw [h4.length, List.length_map]; exact hl, fun w hw => ?_⟩
      rw [h4.ints] at hw
      obtain ⟨i, _, rfl⟩ := List.mem_map.mp hw
      exact ⟨i, rfl⟩
    · simp only [if_neg ha] at h; cases h) (.lst upd_same (h4.up (Ex.new h2))) ⟨p, rfl, by simp⟩⟩
theorem f_call {R : List PyData → RS → Prop} (D : Def X.prog X.w X.K X.mg X.base k x (spD X.K n R)) (hr : Room k X.A) (ha : PA X (e :: es) (tA X.K true env ds)) (hn : ds.length = n) (hR : R ds (.new t d)) (hg : Gl X x := by rfl) (hdb : (x == ("__debug__" : Str)) = false := by decide)
    (he : starEach (e :: es) X.env = (false, eval e X.env) :: starEach es X.env := by rfl) (hpl : (backTo pos (starEach es X.env)).any (·.1) = false := by rfl) : PE X (.Call (.Name x p) (e :: es) [] pos) (tF X.K t env d) := by
  obtain ⟨f, fd, ps, Fo, hm, hk, hb⟩ := D
  exact pmono (pe_call (E := E0) Fo hr hg hm hk hb .nil pass0 ha hdb he hpl) fun σ H Q ⟨F0, H0, F, ok, q⟩ => ⟨F0, H0, F, ok, fun vs F1 H1 g1 x1 => ⟨F1, ds, .new t d, g1.fh, by rw [List.append_nil]; exact x1, hn, hR, fun v F2 H2 Φ g2 fr x2 vt => q v F2 H2 Φ (g1.trans g2) (fun a e n t h => by
    obtain ⟨h1, h2, h3⟩ := fr a e n t h
    exact ⟨h1, g1.hh.back h2, h3⟩) x2 vt⟩⟩
/-- as plain data, as a new list -/
theorem e_F {m : Bool} (h : PE X e (tF K t env d)) : PE X e (tE K m env d) := pmono h fun σ H Q ⟨F0, H0, F, ok, q⟩ => ⟨F0, H0, F, ok, fun v F1 H1 Φ g _ x1 _ => q v F1 H1 g (seldn g.fh x1)⟩
def joinR (Φ Φc : Reg) : Reg := fun a => match Φ a with
  | some q => some q
  | none => Φc a
theorem n_F (h : PE X e (tF K t env d)) : PE X e (tN K t env d) := pmono h fun σ H Q ⟨F0, H0, F, Φ, c, ok, m, q⟩ => ⟨F0, H0, F, ok, fun v F1 H1 Φc g fr x1 vt => by
  have xc : ExR Φc (joinR Φ Φc) := fun a z hz => by
    have := (fr a z.1 z.2.1 z.2.2 hz).2.1
    unfold joinR
    rw [m.free this]; exact hz
  refine q v F1 H1 (joinR Φ Φc) g (fun a z hz => by unfold joinR; rw [hz]) (fun a e n t h1 h2 => ?_) x1 (VT.up (Ex.refl _) xc _ _ vt)
  unfold joinR at h1
  rw [h2] at h1
  obtain ⟨b1, b2, vs, b3, b4, b5⟩ := fr a e n t h1
  exact ⟨b1, b2, vs, b3, b4, fun w hw => VT.up (Ex.refl _) xc _ _ (b5 w hw)⟩⟩
theorem n_dat (h : PE X e (tE K true env d)) : PE X e (tN K .any env d) := pmono h fun σ H Q ⟨F0, H0, F, Φ, c, ok, m, q⟩ => ⟨F0, H0, F, ok, fun v F1 H1 g x1 => q v F1 H1 Φ g (fun _ _ z => z) (fun a e n t h1 h2 => by rw [h1] at h2; cases h2) x1 trivial⟩
theorem mix0 {K : KF} {F H H0 : Hp} {Φ : Reg} {env : List Sl} {σ : St} {c : Nat} (m : Mes K H0 env σ F H Φ c) (xfh : Ex F H) : Ex (mixH F Φ 0 H) F := fun a o h => by
  unfold mixH at h
  cases ha : Φ a with
  | none => rw [ha] at h; exact h
  | some q =>
    rw [ha] at h
    obtain ⟨e', n, t⟩ := q
    simp only at h
    split at h
    · rename_i hle
      obtain ⟨_, h2, _⟩ := m.reg a e' n t ha
      obtain ⟨vs, h3, _⟩ := h2 (by omega)
      rw [xfh _ _ h3] at h
      rw [h3]; exact h
    · exact h
theorem n_slot {c : Nat} (i : Nat) (hi : X.N[i]? = some x) (hv : Vis X.env.scope x) (ho : env[i]? = some (.mes 0 c t (some d))) (hd : (x == ("__debug__" : Str)) = false := by decide) (hcd : (x == ("__classdict__" : Str)) = false := by decide) : PE X (.Name x pos) (tN K t env d) :=
  pmono (pe_var hi hv hd hcd) fun σ H Q ⟨F0, H0, F, Φ, c', ok, m, q⟩ => by
    obtain ⟨_, v, h1, h2, h3⟩ := m.mes i 0 c t _ ho
    exact ⟨v, h1, q v F H Φ (Grow.refl ok.g.fh) (fun _ _ z => z) (fun a e n t h1 h2 => by rw [h1] at h2; cases h2) ((h3 d rfl).up (mix0 m ok.g.fh)) h2⟩

/-! statements of the def that makes a tree -/
theorem s_newN (t : Ty) (i : Nat) (hN : X.N.Nodup) (hi : X.N[i]? = some x) (he : PE X e (tO K env [])) (h : E.nx (env.set i (.ownN t []))) (hx : Loc X.env.scope x := by first | exact .inl rfl | exact .inr rfl)
    (hs : swapsWith e (some (.Name x p1)) pos.line X.env = pure false := by rfl) (hf : X.fn x = true ∨ X.env.scope.names.lookup x = some .local := by first | exact .inl rfl | exact .inr rfl) : PS X (.Assign [.Name x p1] e pos) (tS K env E) :=
  psmono (ps_set hN hi hx he hs hf) fun D σ H ⟨F0, H0, F, ok, n, _⟩ => ⟨F0, H0, F, ok, fun p vs F1 H1 g1 h1 h2 h3 h4 => n _ _ F1 H1 h (by
    have o1 := ok.grow g1
    by_cases hiσ : i < σ.length
    · refine o1.setT trivial ?_
      obtain ⟨Φ, c, m⟩ := ok.tre
      have : vs = [] := by cases h4; rfl
      subst this
      exact ⟨Φ, c, (m.grow g1 ok.g.fh ok.g.hh).newOwn hiσ (m.free h1) (ok.noOwn h1) h2 (ok.g.hh.back h1) h3 (.inr ⟨t, [], rfl, .nil, fun w hw => by cases hw⟩)⟩
    · rw [set_big hiσ, set_big (by rw [← ok.len]; exact hiσ)]
      exact o1)⟩
theorem s_appN (i : Nat) (hi : X.N[i]? = some x) (hv : Vis X.env.scope x) (ho : env[i]? = some (.ownN t ds)) (he : PE X e (tN X.K t env d)) (hz : ds.length < sizeLine) (h : E.nx (env.set i (.ownN t (ds ++ [d]))))
    (hd : (x == ("__debug__" : Str)) = false := by decide) (hcd : (x == ("__classdict__" : Str)) = false := by decide) (na : NS X e := by exact fun _ => rfl)
    (hbase : attributeBase (.Name x p1) "append" X.env (eval (.Name x p1) X.env) = eval (.Name x p1) X.env := by rfl) (hline : (p2.endLine == p3.line) = true := by rfl)
    (hs : swapsWith (.Call (.Attribute (.Name x p1) "append" p2) [e] [] p3) none pos.line X.env = pure false := by rfl) : PS X (.Expr (.Call (.Attribute (.Name x p1) "append" p2) [e] [] p3) pos) (tS X.K env E) :=
  psmono (ps_expr (pe_bm (hline := hline) PySem.F.plainAttrs_list PySem.F.slot_list_append PySem.F.type_list_append mt_append (pe_var hi hv hd hcd) (pa_cons he pa_nil (na [])) (hs := na []) (hfew := by rw [na []]; rfl) (hbase := hbase)) hs) fun D σ H ⟨F0, H0, F, ok, n, _⟩ => by
    obtain ⟨Φ, c, m⟩ := ok.tre
    obtain ⟨p, vs, h1, h4, h5, h6⟩ := m.ownN i t ds ho
    have os : OwnS env σ i p := ⟨h1, .inr ⟨t, ds, ho⟩⟩
    refine ⟨.ref p, h1, .inl ⟨rfl, _, .inl (.inl h4)⟩, F0, H0, F, Φ, c, ok, m, fun v F1 H1 Φ1 g1 xr nr x1 vt => ?_⟩
    have h7 := g1.hh _ _ h4
    have o1 := ok.grow g1
    have m1 := m.growN g1 ok.g.fh ok.g.hh xr nr
    obtain ⟨_, q2, q3, _⟩ := m1.own i p os
    refine ⟨p, vs, v, rfl, rfl, h7, by rw [h5.length]; exact hz, n _ _ F1 _ h (o1.putT q2 q3 h7 (fun j es hj z => ?_) (fun j s hj => ?_) (by rw [List.length_set]) ⟨Φ1, c, m1.put os (.inr ⟨t, _, rfl, (h5.up g1.ff).append (.cons x1 .nil), fun w hw => ?_⟩)⟩)⟩
    · rcases get_set_cases hj with ⟨_, _, q⟩ | ⟨ne, q⟩
      · cases q
      · exact ne (m.sep i j p os ⟨z, .inl ⟨es, q⟩⟩)
    · rcases get_set_cases hj with ⟨_, _, q⟩ | ⟨ne, q⟩
      · subst q; exact .inl trivial
      · exact .inr (.inr q)
    · rcases List.mem_append.mp hw with hw | hw
      · exact VT.up g1.ff xr _ _ (h6 w hw)
      · rw [List.mem_singleton.mp hw]; exact vt
theorem s_retNew {n : Nat} (i : Nat) (hi : X.N[i]? = some x) (hv : Vis X.env.scope x) (ho : env[i]? = some (.ownN t ds)) (hl : ds.length ≤ n) (h : E.rt (.new (.L n t) (.list ds))) (hd : (x == ("__debug__" : Str)) = false := by decide) (hcd : (x == ("__classdict__" : Str)) = false := by decide) : PS X (.Return (some (.Name x p1)) pos) (tS K env E) :=
  psmono (ps_ret (pe_var hi hv hd hcd)) fun D σ H ⟨F0, H0, F, ok, _, _, _, r⟩ => by
    obtain ⟨Φ, c, m⟩ := ok.tre
    obtain ⟨p, vs, h1, h4, h5, h6⟩ := m.ownN i t ds ho
    obtain ⟨q1, q2, q3, _⟩ := m.own i p ⟨h1, .inr ⟨t, ds, ho⟩⟩
    have hx : Ex F (upd F p (.lst vs)) := Ex.new q2
    refine ⟨.ref p, h1, r _ h (.ref p) (upd F p (.lst vs)) H (fun a => if a = p then some (0, n, t) else match Φ a with
      | some (0, m, u) => some (0, m, u)
      | _ => none) (ok.g.frz q3 q2 h4) ?_ (.lst upd_same (h5.up hx)) ⟨p, rfl, by simp⟩⟩
    have up : ∀ u w, VT K F Φ 0 u w → VT K (upd F p (.lst vs)) (fun a => if a = p then some (0, n, t) else match Φ a with
      | some (0, m, u) => some (0, m, u)
      | _ => none) 0 u w := VT.upE (fun a us z => ex_t hx z) fun a m u z => by
        have : a ≠ p := fun y => by rw [y, q1] at z; cases z
        simp only [if_neg this, z]
    intro a e m' u hu
    by_cases ha : a = p
    · subst ha
      simp only [if_true] at hu
      cases hu
      exact ⟨rfl, q3, vs, upd_same, by rw [h5.length]; exact hl, fun w hw => up _ _ (h6 w hw)⟩
    · simp only [if_neg ha] at hu
      cases hq : Φ a with
      | none => rw [hq] at hu; cases hu
      | some z =>
        obtain ⟨e0, m0, u0⟩ := z
        rw [hq] at hu
        cases e0 with
        | succ e0 => cases hu
        | zero =>
          cases hu
          obtain ⟨b1, b2, _, ws, b3, _, b4⟩ := m.reg a 0 m' u hq
          obtain ⟨ws', b5, b6⟩ := b2 rfl
          have : ws' = ws := by
            have := ok.g.fh _ _ b5
            rw [b3] at this; cases this; rfl
          subst this
          exact ⟨rfl, b1, ws', hx _ _ b5, b6, fun w hw => up _ _ (b4 w hw)⟩
end
end D3
namespace D3
open PySem PySem.Spec L2 PyProof.Rows

/-! ### told trees: read as data in tests, then changed -/
def noTree : Sl → Bool
  | .mes _ _ _ _ | .itm _ _ _ _ _ _ | .tab _ _ _ _ _ | .tr _ _ => false
  | _ => true
/-- c is how often the lists of the trees were made longer, so far -/
def Pin (env : List Sl) (c : Nat) : Prop := (∃ (j : Nat) (e : Nat) (t : Ty) (d : Option PyData), env[j]? = some (.mes e c t d)) ∨ (c = 0 ∧ env.all noTree = true) ∨ ∃ (j e n m : Nat) (dss : List (List PyData)), env[j]? = some (.tab e c n m dss)
def softS : Sl → Sl
  | .mes _ _ _ (some d) => .dat d
  | .mes _ _ _ none => .no
  | .itm _ _ _ _ _ _ => .no
  | .ownN _ _ => .no
  | .tab _ _ _ _ dss => .dat (.list (dss.map .list))
  | .tr _ _ => .no
  | s => s
def dropS : Sl → Sl
  | .mes e c t _ => .mes e c t none
  | s => s
def bumpS (e : Nat) : Sl → Sl
  | .mes e' c t d => .mes e' (c + 1) t (if e ≤ e' then none else d)
  | .itm a vs e' c n t => .itm a vs e' (c + 1) n t
  | .tab e' c n m dss => if e' = e then .no else .tab e' (c + 1) n m dss
  | .tr _ _ => .no
  | s => s
def Ty.tag : Ty → Nat
  | .any => 0
  | .int => 1
  | .L _ t => t.tag + 2
  | .T _ _ => 1000
def lockFree (e tg : Nat) : Sl → Bool
  | .itm _ _ e' _ _ t => !(e' == e) || !(t.tag == tg)
  | _ => true
section
variable {K : KF} {F F' H H' H0 F0 : Hp} {Φ Φ' Φc : Reg} {env : List Sl} {σ : St} {c : Nat}
theorem Mes.zero (m : Mes K H0 env σ F H Φ c) (xfh : Ex F H) (h : env.all noTree = true) : Mes K H0 env σ F H (fun a => match Φ a with
    | some (0, n, t) => some (0, n, t)
    | _ => none) 0 := by
  have up : ∀ u w, VT K F Φ 0 u w → VT K F (fun a => match Φ a with
      | some (0, n, t) => some (0, n, t)
      | _ => none) 0 u w := VT.upE (fun a us z => z) fun a m u z => by simp only [z]
  have no : ∀ (i : Nat) (s : Sl), env[i]? = some s → noTree s = true := fun i s hs => List.all_eq_true.mp h s (List.mem_of_getElem? hs)
  refine ⟨fun a e n t hu => ?_, fun i p ho => ?_, m.sep, fun i e c' t d hi => ?_, fun i a vs e c' n t hi => ?_, fun i t ds hi => ?_, fun i e c' n m' dss hi => (by cases no i _ hi), TrF.none fun i v t hi => (by cases no i _ hi)⟩
  · cases hq : Φ a with
    | none => simp only [hq] at hu; cases hu
    | some z =>
      obtain ⟨e0, m0, u0⟩ := z
      simp only [hq] at hu
      cases e0 with
      | succ e0 => cases hu
      | zero =>
        cases hu
        obtain ⟨b1, b2, _, ws, b3, _, b4⟩ := m.reg a 0 n t hq
        obtain ⟨ws', b5, b6⟩ := b2 rfl
        have : ws' = ws := by
          have := xfh _ _ b5
          rw [b3] at this; cases this; rfl
        subst this
        exact ⟨b1, fun _ => ⟨ws', b5, b6⟩, fun z => absurd rfl z, ws', b3, Nat.le_trans b6 (Nat.le_add_right _ _), fun w hw => up _ _ (b4 w hw)⟩
  · obtain ⟨h1, h2⟩ := m.own i p ho
    exact ⟨by simp only [h1], h2⟩
  · have := no i _ hi
    cases this
  · have := no i _ hi
    cases this
  · obtain ⟨p, vs, h1, h2, h3, h4⟩ := m.ownN i t ds hi
    exact ⟨p, vs, h1, h2, h3, fun w hw => up _ _ (h4 w hw)⟩
theorem Ok.pin (o : Ok K F0 H0 env σ F H) (h : Pin env c) : ∃ Φ, Mes K H0 env σ F H Φ c := by
  obtain ⟨Φ, c', m⟩ := o.tre
  rcases h with ⟨j, e, t, d, hj⟩ | ⟨rfl, hn⟩ | ⟨j, e, n, m', dss, hj⟩
  · have := (m.mes j e c t d hj).1
    subst this
    exact ⟨Φ, m⟩
  · exact ⟨_, m.zero o.g.fh hn⟩
  · have := (m.tab j e c n m' dss hj).1
    subst this
    exact ⟨Φ, m⟩
theorem map_get {α β : Type} {f : α → β} {l : List α} {i : Nat} {y : β} (h : (l.map f)[i]? = some y) : ∃ x, l[i]? = some x ∧ f x = y := by
  rw [List.getElem?_map] at h
  cases hx : l[i]? with
  | none => rw [hx] at h; cases h
  | some x => rw [hx] at h; exact ⟨x, rfl, by simpa using h⟩
/-- all trees frozen for once -/
theorem Ok.soft (o : Ok K F0 H0 env σ F H) (m : Mes K H0 env σ F H Φ c) : ∃ F', Ok K F0 H0 (env.map softS) σ F' H ∧ Ex F F' ∧ ∀ a q, Φ a = some q → F' a = H a := by
  let F' : Hp := fun a => match Φ a with
    | some _ => H a
    | none => F a
  have xf : Ex F F' := fun a v h => by
    show (match Φ a with | some _ => H a | none => F a) = _
    cases Φ a with
    | none => exact h
    | some q => exact o.g.fh _ _ h
  have xh : Ex F' H := fun a v h => by
    have h : (match Φ a with | some _ => H a | none => F a) = some v := h
    cases hq : Φ a with
    | none => rw [hq] at h; exact o.g.fh _ _ h
    | some q => rw [hq] at h; exact h
  have xm : ∀ e, Ex (mixH F Φ e H) F' := fun e a v h => by
    show (match Φ a with | some _ => H a | none => F a) = _
    unfold mixH at h
    cases hq : Φ a with
    | none => rw [hq] at h; exact h
    | some q =>
      rw [hq] at h
      simp only at h ⊢
      split at h
      · exact h
      · exact o.g.fh _ _ h
  have own : ∀ p, Φ p = none → F' p = F p := fun p h => by
    show (match Φ p with | some _ => H p | none => F p) = _
    rw [h]
  refine ⟨F', ⟨⟨o.g.ff.trans xf, o.g.hh, xh, fun a h0 h1 => ?_⟩, fun i d h => ?_, fun i ds h => ?_, fun i j ds es p h1 h2 h3 h4 => ?_, fun i ns h => ?_, fun i a dd d h => ?_, by rw [List.length_map, o.len], fun _ => none, 0, ⟨(fun a e n t h => by cases h), fun i p h => ?_, fun i j p h1 h2 => ?_, fun i e c' t d h => ?_, fun i a vs e c' n t h => ?_, fun i t ds h => ?_, fun i e c' n m' dss h => ?_, TrF.none fun i v t h => ?_⟩⟩, xf, fun a q h => ?_⟩
  · show (match Φ a with | some _ => H a | none => F a) = _
    cases hq : Φ a with
    | none => exact o.g.old a h0 h1
    | some q => exact absurd (m.reg a q.1 q.2.1 q.2.2 hq).1 h1
  · obtain ⟨s, hs, he⟩ := map_get h
    cases s with
    | dat d' => cases he; obtain ⟨v, b1, b2⟩ := o.dat i _ hs; exact ⟨v, b1, b2.up xf⟩
    | mes e c' t d' =>
      cases d' with
      | none => cases he
      | some x =>
        cases he
        obtain ⟨_, v, b1, b2, b3⟩ := m.mes i e c' t _ hs
        exact ⟨v, b1, (b3 d rfl).up (xm e)⟩
    | tab e c' n m' dss =>
      cases he
      obtain ⟨_, _, q, vs, b1, b2, b3, _, b4, b5⟩ := m.tab i e c' n m' dss hs
      have fq : ∀ a z, Φ a = some z → F' a = H a := fun a z h => by
        show (match Φ a with | some _ => H a | none => F a) = _
        rw [h]
      refine ⟨.ref q, b1, .lst (by rw [fq q _ b2, b3]) ?_⟩
      have build : ∀ (vs : List V) (dss : List (List PyData)), vs.length = dss.length → (∀ (k : Nat) ds, dss[k]? = some ds → ∃ p ws, vs[k]? = some (.ref p) ∧ F' p = some (.lst ws) ∧ DqAll K F' ws ds) → DqAll K F' vs (dss.map .list) := by
        intro vs
        induction vs with
        | nil => intro dss hl _; cases dss with
          | nil => exact .nil
          | cons => cases hl
        | cons v vs ih => intro dss hl h; cases dss with
          | nil => cases hl
          | cons ds dss =>
            obtain ⟨p, ws, a1, a2, a3⟩ := h 0 ds rfl
            cases a1
            exact .cons (.lst a2 a3) (ih dss (by simpa using hl) fun k ds hk => by
              obtain ⟨p, ws, a1, a2⟩ := h (k + 1) ds (by simpa using hk)
              exact ⟨p, ws, by simpa using a1, a2⟩)
      refine build vs dss b4 fun k ds hk => ?_
      obtain ⟨p, ws, a1, a2, a3, a4⟩ := b5 k ds hk
      exact ⟨p, ws, a1, by rw [fq p _ a2, a3], a4.up xf⟩
    | _ => cases he
  · obtain ⟨s, hs, he⟩ := map_get h
    cases s with
    | own d' =>
      cases he
      obtain ⟨p, vs, b1, b2, b3, b4, b5⟩ := o.own i _ hs
      exact ⟨p, vs, b1, by rw [own p (m.own i p ⟨b1, .inl ⟨_, hs⟩⟩).1]; exact b2, b3, b4, b5.up xf⟩
    | mes e c' t d' => cases d' <;> cases he
    | _ => cases he
  · obtain ⟨s, hs, he⟩ := map_get h1
    obtain ⟨s', hs', he'⟩ := map_get h2
    have e1 : s = .own ds := by
      cases s with
      | own d' => exact he
      | mes e c' t d' => cases d' <;> cases he
      | _ => cases he
    have e2 : s' = .own es := by
      cases s' with
      | own d' => exact he'
      | mes e c' t d' => cases d' <;> cases he'
      | _ => cases he'
    subst e1 e2
    exact o.sep i j ds es p hs hs' h3 h4
  · obtain ⟨s, hs, he⟩ := map_get h
    cases s with
    | scr ns' => cases he; obtain ⟨a, b1, b2⟩ := o.scr i _ hs; exact ⟨a, b1, ex_l xf b2⟩
    | mes e c' t d' => cases d' <;> cases he
    | _ => cases he
  · obtain ⟨s, hs, he⟩ := map_get h
    cases s with
    | exc a' dd' d' => cases he; obtain ⟨v, b1, b2, b3⟩ := o.exc i _ _ _ hs; exact ⟨v, b1, b2, b3.up xf⟩
    | mes e c' t d' => cases d' <;> cases he
    | _ => cases he
  · have os : OwnS env σ i p := ⟨h.1, by
      rcases h.2 with ⟨ds, h2⟩ | ⟨t, ds, h2⟩
      · obtain ⟨s, hs, he⟩ := map_get h2
        cases s with
        | own d' => exact .inl ⟨_, hs⟩
        | mes e c' t d' => cases d' <;> cases he
        | _ => cases he
      · obtain ⟨s, hs, he⟩ := map_get h2
        cases s with
        | mes e c' t d' => cases d' <;> cases he
        | _ => cases he⟩
    obtain ⟨b1, b2, b3, b4⟩ := m.own i p os
    exact ⟨rfl, by rw [own p b1]; exact b2, b3, b4⟩
  · have os : ∀ i, OwnS (env.map softS) σ i p → OwnS env σ i p := fun i h => ⟨h.1, by
      rcases h.2 with ⟨ds, h2⟩ | ⟨t, ds, h2⟩
      · obtain ⟨s, hs, he⟩ := map_get h2
        cases s with
        | own d' => exact .inl ⟨_, hs⟩
        | mes e c' t d' => cases d' <;> cases he
        | _ => cases he
      · obtain ⟨s, hs, he⟩ := map_get h2
        cases s with
        | mes e c' t d' => cases d' <;> cases he
        | _ => cases he⟩
    exact m.sep i j p (os i h1) (os j h2)
  · obtain ⟨s, hs, he⟩ := map_get h
    cases s with
    | mes e c' t d' => cases d' <;> cases he
    | _ => cases he
  · obtain ⟨s, hs, he⟩ := map_get h
    cases s with
    | mes e c' t d' => cases d' <;> cases he
    | _ => cases he
  · obtain ⟨s, hs, he⟩ := map_get h
    cases s with
    | mes e c' t d' => cases d' <;> cases he
    | _ => cases he
  · obtain ⟨s, hs, he⟩ := map_get h
    cases s with
    | mes e c' t d' => cases d' <;> cases he
    | _ => cases he
  · obtain ⟨s, hs, he⟩ := map_get h
    cases s with
    | mes e c' t d' => cases d' <;> cases he
    | _ => cases he
  · show (match Φ a with | some _ => H a | none => F a) = _
    rw [h]
end
section
variable {X : Cx} {K : KF} {e a b e1 e2 : Expr} {es : List Expr} {env env' : List Sl} {d : PyData} {ds rs : List PyData} {pos p1 p2 p3 p : Pos} {t : Ty} {E : DE} {rest sts : List Stmt} {k n c : Nat} {x y : Str}
/-- a test reads trees as data -/
theorem t_soft {q : Bool} (he : env.map softS = env') (h : PT X e (tT K env' q)) : PT X e (tT K env q) := ptmono h fun σ H Q ⟨F0, H0, F, ok, r⟩ => by
  obtain ⟨Φ, c, m⟩ := ok.tre
  obtain ⟨F', ok', _⟩ := ok.soft m
  exact ⟨F0, H0, F', he ▸ ok', fun F1 H1 g => r F H1 (Grow.junk ok.g.fh g.hh)⟩
/-- .. and an item of a tree, of which it is known that it is a list of ints -/
theorem t_softI {q : Bool} {m : Nat} {la : Addr} {vs : List V} {ep n : Nat} (j : Nat) (hj : env[j]? = some (.itm la vs ep c n (.L m .int))) (he : env.map softS = env') (h : ∀ ns : List Int, ns.length ≤ m + c → PT X e (tT K (env'.set j (.dat (eL .int ns))) q)) : PT X e (tT K env q) :=
  ptmono (t := fun σ H Q => ∃ ns : List Int, ns.length ≤ m + c ∧ tT K (env'.set j (.dat (eL .int ns))) q σ H Q) ⟨fun pins s σ H Q I ⟨ns, hl, r⟩ => (h ns hl).run pins s σ H Q I r⟩ fun σ H Q ⟨F0, H0, F, ok, r⟩ => by
    obtain ⟨Φ, c', mm⟩ := ok.tre
    obtain ⟨rfl, _, _, v, h1, lb, rfl, h2⟩ := mm.itm j la vs ep c n _ hj
    obtain ⟨b1, _, _, ws, b2, b3, b4⟩ := mm.reg lb ep m .int h2
    have hi : ∃ ns : List Int, ws = ns.map V.int := by
      clear b2 b3
      induction ws with
      | nil => exact ⟨[], rfl⟩
      | cons w ws ih =>
        obtain ⟨i, rfl⟩ := b4 w (List.mem_cons_self ..)
        obtain ⟨ns, rfl⟩ := ih fun w hw => b4 w (List.mem_cons_of_mem _ hw)
        exact ⟨i :: ns, rfl⟩
    obtain ⟨ns, rfl⟩ := hi
    obtain ⟨F', ok', xf, xr⟩ := ok.soft mm
    have hF' : F' lb = some (.lst (ns.map V.int)) := by rw [xr lb _ h2, b2]
    have okd : Ok K F0 H0 (env'.set j (.dat (eL .int ns))) (σ.set j (some (.ref lb))) F' H := (he ▸ ok').setDat (.lst hF' (DqAll.ofInts ns))
    have hsσ : σ.set j (some (V.ref lb)) = σ := by
      obtain ⟨q1, q2⟩ := List.getElem?_eq_some_iff.mp h1
      rw [← q2, List.set_getElem_self]
    rw [hsσ] at okd
    exact ⟨ns, by simpa [Ty.cnt] using b3, F0, H0, F', okd, fun F1 H1 g => r F H1 (Grow.junk ok.g.fh g.hh)⟩
end
end D3
namespace D3
open PySem PySem.Spec L2 PyProof.Rows
section
variable {X : Cx} {K : KF} {e a b e1 e2 : Expr} {es : List Expr} {env env' : List Sl} {d : PyData} {ds rs : List PyData} {pos p1 p2 p3 p : Pos} {t : Ty} {E : DE} {rest sts : List Stmt} {k n c : Nat} {x y : Str}
/-- x = f(..): a new tree that may be changed later on -/
theorem s_setM (ep : Nat) (i : Nat) (hN : X.N.Nodup) (hi : X.N[i]? = some x) (he : PE X e (tF K t env d)) (hep : ep ≠ 0) (hc : Pin env c) (h : E.nx (env.set i (.mes ep c t (some d)))) (hx : Loc X.env.scope x := by first | exact .inl rfl | exact .inr rfl)
    (hs : swapsWith e (some (.Name x p1)) pos.line X.env = pure false := by rfl) (hf : X.fn x = true ∨ X.env.scope.names.lookup x = some .local := by first | exact .inl rfl | exact .inr rfl) : PS X (.Assign [.Name x p1] e pos) (tS K env E) :=
  psmono (ps_set hN hi hx he hs hf) fun D σ H ⟨F0, H0, F, ok, n, _⟩ => ⟨F0, H0, F, ok, fun v F1 H1 Φc g1 fr x1 vt => by
    obtain ⟨Φ, m⟩ := ok.pin hc
    let F2 : Hp := fun a => if (Φc a).isSome then none else F1 a
    let Φ2 : Reg := fun a => match Φ a with
      | some q => some q
      | none => (Φc a).map fun (q : Nat × Nat × Ty) => (ep, q.2)
    have hc0 : ∀ a o, H a = some o → Φc a = none := fun a o h => by
      cases hq : Φc a with
      | none => rfl
      | some q =>
        have := (fr a q.1 q.2.1 q.2.2 hq).2.1
        rw [h] at this; cases this
    have f2 : ∀ a, Φc a = none → F2 a = F1 a := fun a h => by
      show (if (Φc a).isSome then none else F1 a) = _
      rw [h]; rfl
    have g2 : Grow F H F2 H1 := ⟨fun a o h => by rw [f2 a (hc0 a o (ok.g.fh _ _ h))]; exact g1.ff _ _ h, g1.hh, fun a o h => by
      have h : (if (Φc a).isSome then none else F1 a) = some o := h
      split at h
      · cases h
      · exact g1.fh _ _ h, fun a h0 h1 => by
      show (if (Φc a).isSome then none else F1 a) = none
      split
      · rfl
      · exact g1.old a h0 h1⟩
    have sq : ∀ a vs, SqT K F1 a vs → SqT K F2 a vs := fun a vs h => by
      have tupn : ∀ o, F1 a = some o → (∀ ws, o ≠ .lst ws) → F2 a = some o := fun o ho hn => by
        rw [f2 a (by
          cases hq : Φc a with
          | none => rfl
          | some q =>
            obtain ⟨_, _, vs, h3, _⟩ := fr a q.1 q.2.1 q.2.2 hq
            rw [ho] at h3; cases h3
            exact absurd rfl (hn vs))]
        exact ho
      rcases h with (h | ⟨o, h⟩) | h
      · exact .inl (.inl (tupn _ h (fun _ z => by cases z)))
      · exact .inl (.inr ⟨o, tupn _ h (fun _ z => by cases z)⟩)
      · exact .inr h
    have up : ∀ u w, VT K F1 Φc 0 u w → VT K F2 Φ2 ep u w := VT.upE sq fun a m' u z => by
      show (match Φ a with | some q => some q | none => (Φc a).map fun (q : Nat × Nat × Ty) => (ep, q.2)) = _
      rw [m.free (fr a 0 m' u z).2.1, z]; rfl
    have m2 : Mes K H0 env σ F2 H1 Φ2 c := m.growR g2 ok.g.fh ok.g.hh (fun a q h => by
      show (match Φ a with | some q => some q | none => (Φc a).map fun (q : Nat × Nat × Ty) => (ep, q.2)) = _
      rw [h]) fun a e' n' u h1 h2 => by
      have h1 : (match Φ a with | some q => some q | none => (Φc a).map fun (q : Nat × Nat × Ty) => (ep, q.2)) = some (e', n', u) := h1
      rw [h2] at h1
      cases hq : Φc a with
      | none => rw [hq] at h1; cases h1
      | some q =>
        obtain ⟨q0, qn, qt⟩ := q
        rw [hq] at h1
        cases h1
        obtain ⟨_, b2, vs, b3, b4, b5⟩ := fr a q0 _ _ hq
        exact ⟨b2, fun z => absurd z hep, fun _ => by
          show (if (Φc a).isSome then none else F1 a) = none
          rw [hq]; rfl, vs, g1.fh _ _ b3, by omega, fun w hw => up _ _ (b5 w hw)⟩
    have xm : Ex F1 (mixH F2 Φ2 ep H1) := fun a o h => by
      unfold mixH
      show (match (match Φ a with | some q => some q | none => (Φc a).map fun (q : Nat × Nat × Ty) => (ep, q.2)) with | some (e', _) => if e' ≤ ep then H1 a else F2 a | none => F2 a) = _
      cases hq : Φ a with
      | some q =>
        simp only
        obtain ⟨_, _, _, vs, b3, _⟩ := m.reg a q.1 q.2.1 q.2.2 hq
        split
        · exact g1.fh _ _ h
        · rw [f2 a (hc0 a _ b3)]; exact h
      | none =>
        cases hq2 : Φc a with
        | none => simp only [Option.map_none]; rw [f2 a hq2]; exact h
        | some q => simp only [Option.map_some, Nat.le_refl, if_true]; exact g1.fh _ _ h
    refine n _ _ F2 H1 h ?_
    have o2 := ok.grow g2
    by_cases hiσ : i < σ.length
    · exact o2.setT trivial ⟨Φ2, c, m2.setM hiσ (.inl ⟨ep, t, some d, rfl, up _ _ vt, fun x hx => by cases hx; exact x1.up xm⟩)⟩
    · rw [set_big hiσ, set_big (by rw [← ok.len]; exact hiσ)]
      exact o2⟩
theorem Ok.mapT {F0 H0 F H : Hp} {σ : St} {f : Sl → Sl} (o : Ok K F0 H0 env σ F H) (hf : ∀ s, f s = s ∨ treeS (f s) ∨ f s = .no) (ht : ∃ Φ c, Mes K H0 (env.map f) σ F H Φ c) : Ok K F0 H0 (env.map f) σ F H := by
  have key : ∀ (i : Nat) (s : Sl), (env.map f)[i]? = some s → ¬ (treeS s ∨ s = .no) → env[i]? = some s := fun i s h hn => by
    obtain ⟨s', hs, he⟩ := map_get h
    rcases hf s' with z | z
    · rw [← he, z]; exact hs
    · rw [he] at z; exact absurd z hn
  have nt : ∀ s : Sl, plainS s ∨ (∃ ds, s = .own ds) → s ≠ .no → ¬ (treeS s ∨ s = .no) := fun s h hn z => by
    rcases z with z | z
    · cases s <;> first | exact z.elim | (rcases h with h | ⟨_, h⟩ <;> first | exact h.elim | cases h)
    · exact hn z
  exact ⟨o.g, fun i d h => o.dat i d (key i _ h (nt _ (.inl trivial) (by intro z; cases z))), fun i d h => o.own i d (key i _ h (nt _ (.inr ⟨_, rfl⟩) (by intro z; cases z))), fun i j ds es p h1 h2 => o.sep i j ds es p (key i _ h1 (nt _ (.inr ⟨_, rfl⟩) (by intro z; cases z))) (key j _ h2 (nt _ (.inr ⟨_, rfl⟩) (by intro z; cases z))), fun i d h => o.scr i d (key i _ h (nt _ (.inl trivial) (by intro z; cases z))), fun i a dd d h => o.exc i a dd d (key i _ h (nt _ (.inl trivial) (by intro z; cases z))), by rw [List.length_map, o.len], ht⟩
theorem own_map {σ : St} {f : Sl → Sl} (h1 : ∀ s ds, f s = .own ds → s = .own ds) (h2 : ∀ s t ds, f s = .ownN t ds → s = .ownN t ds) {i : Nat} {p : Addr} (h : OwnS (env.map f) σ i p) : OwnS env σ i p := ⟨h.1, by
  rcases h.2 with ⟨ds, z⟩ | ⟨t, ds, z⟩
  · obtain ⟨s, hs, he⟩ := map_get z
    exact .inl ⟨ds, by rw [hs, h1 s ds he]⟩
  · obtain ⟨s, hs, he⟩ := map_get z
    exact .inr ⟨t, ds, by rw [hs, h2 s t ds he]⟩⟩
theorem Mes.drop {F H H0 : Hp} {σ : St} {Φ : Reg} (m : Mes K H0 env σ F H Φ c) : Mes K H0 (env.map dropS) σ F H Φ c := by
  have os : ∀ i p, OwnS (env.map dropS) σ i p → OwnS env σ i p := fun i p h => own_map (fun s ds z => by cases s <;> first | exact z | cases z) (fun s t ds z => by cases s <;> first | exact z | cases z) h
  refine ⟨m.reg, fun i p h => m.own i p (os i p h), fun i j p h1 h2 => m.sep i j p (os i p h1) (os j p h2), fun i e c' t d h => ?_, fun i a vs e c' n t h => ?_, fun i t ds h => ?_, fun i e c' n m' dss h => ?_, m.tr.of (fun i v t h => by
    obtain ⟨s, hs, he⟩ := map_get h
    cases s with
    | tr => cases he; exact ⟨hs, rfl⟩
    | _ => cases he) (Ex.refl _) fun a z => ⟨z, fun _ y => y⟩⟩
  · obtain ⟨s, hs, he⟩ := map_get h
    cases s with
    | mes e1 c1 t1 d1 =>
      cases he
      obtain ⟨h1, v, h2, h3, _⟩ := m.mes i _ _ _ _ hs
      exact ⟨h1, v, h2, h3, fun x z => by cases z⟩
    | _ => cases he
  · obtain ⟨s, hs, he⟩ := map_get h
    cases s with
    | itm => cases he; exact m.itm i _ _ _ _ _ _ hs
    | _ => cases he
  · obtain ⟨s, hs, he⟩ := map_get h
    cases s with
    | ownN => cases he; exact m.ownN i _ _ hs
    | _ => cases he
  · obtain ⟨s, hs, he⟩ := map_get h
    cases s with
    | tab => cases he; exact m.tab i _ _ _ _ _ hs
    | _ => cases he
/-- the data of trees, forgotten -/
theorem s_dropD (he : env.map dropS = env') (h : PSs X sts (tS K env' E)) : PSs X sts (tS K env E) := pssmono h fun D σ H ⟨F0, H0, F, ok, r⟩ => by
  obtain ⟨Φ, c, m⟩ := ok.tre
  exact ⟨F0, H0, F, he ▸ ok.mapT (fun s => by cases s <;> first | exact .inl rfl | exact .inr (.inl trivial)) ⟨Φ, c, m.drop⟩, r⟩
theorem tag_ne {s t : Ty} (h : ¬ s.tag = t.tag) : s ≠ t := fun z => h (by rw [z])
/-- a list of a tree gets one item more -/
theorem Ok.bump {F0 H0 F H : Hp} {σ : St} {Φ : Reg} {q : Addr} {ep n : Nat} {us : List V} {w : V} (o : Ok K F0 H0 env σ F H) (m : Mes K H0 env σ F H Φ c) (hq : Φ q = some (ep, n, t)) (hep : ep ≠ 0) (hu : H q = some (.lst us)) (hw : VT K F Φ ep t w) (hlf : ∀ c, t.cnt c = c)
    (hl : env.all (lockFree ep t.tag) = true) : Ok K F0 H0 (env.map (bumpS ep)) σ F (upd H q (.lst (us ++ [w]))) := by
  obtain ⟨b1, _, b3, us', b4, b5, b6⟩ := m.reg q ep n t hq
  rw [hu] at b4; cases b4
  have hF := b3 hep
  have os : ∀ i p, OwnS (env.map (bumpS ep)) σ i p → OwnS env σ i p := fun i p h => own_map (fun s ds z => by cases s <;> first | exact z | cases z | (unfold bumpS at z; simp only at z; split at z <;> cases z)) (fun s t ds z => by cases s <;> first | exact z | cases z | (unfold bumpS at z; simp only at z; split at z <;> cases z)) h
  have ne_own : ∀ i p, OwnS env σ i p → p ≠ q := fun i p h z => by
    have := (m.own i p h).1
    rw [z, hq] at this; cases this
  refine o.putT hF b1 hu (fun j es hj z => ?_) (fun j s hj => ?_) (by rw [List.length_map]) ⟨Φ, c + 1, fun a e n' t' h => ?_, fun i p h => ?_, fun i j p h1 h2 => m.sep i j p (os i p h1) (os j p h2), fun i e c' t' d h => ?_, fun i a vs e c' n' t' h => ?_, fun i t' ds h => ?_, fun i e c' n' m' dss h => ?_, TrF.none fun i v t h => by
    obtain ⟨s, hs, he⟩ := map_get h
    cases s with
    | tab => unfold bumpS at he; simp only at he; split at he <;> cases he
    | _ => cases he⟩
  · exact ne_own j q (os j q ⟨z, .inl ⟨es, hj⟩⟩) rfl
  · obtain ⟨s', hs, he⟩ := map_get hj
    cases s' with
    | tab e' c' n' m' dss =>
      unfold bumpS at he
      simp only at he
      split at he
      · exact .inr (.inl he.symm)
      · subst he; exact .inl trivial
    | tr => cases he; exact .inr (.inl rfl)
    | _ => cases he; first | exact .inl trivial | exact .inr (.inr hs)
  · obtain ⟨a1, a2, a3, vs, a4, a5, a6⟩ := m.reg a e n' t' h
    by_cases ha : a = q
    · subst ha
      rw [hq] at h; cases h
      rw [hu] at a4; cases a4
      refine ⟨a1, a2, a3, us ++ [w], upd_same, by rw [hlf] at a5 ⊢; rw [List.length_append]; simp; omega, fun w' hw' => ?_⟩
      rcases List.mem_append.mp hw' with hw' | hw'
      · exact a6 w' hw'
      · rw [List.mem_singleton.mp hw']; exact hw
    · have := Ty.cnt_mono (show c ≤ c + 1 from Nat.le_succ c) t'
      exact ⟨a1, a2, a3, vs, by rw [upd_ne ha]; exact a4, by omega, a6⟩
  · obtain ⟨a1, a2, a3, vs, a4⟩ := m.own i p (os i p h)
    exact ⟨a1, a2, a3, vs, by rw [upd_ne (ne_own i p (os i p h))]; exact a4⟩
  · obtain ⟨s, hs, he⟩ := map_get h
    cases s with
    | mes e1 c1 t1 d1 =>
      obtain ⟨h1, v, h2, h3, h4⟩ := m.mes i _ _ _ _ hs
      cases he
      refine ⟨by rw [h1], v, h2, h3, fun x z => ?_⟩
      split at z
      · cases z
      · rename_i hle
        refine (h4 x z).up fun a o' ha => ?_
        unfold mixH at ha ⊢
        by_cases haq : a = q
        · subst haq
          rw [hq] at ha ⊢
          simp only at ha ⊢
          rw [if_neg hle] at ha
          rw [hF] at ha; cases ha
        · cases hφ : Φ a with
          | none => rw [hφ] at ha; exact ha
          | some z => rw [hφ] at ha; rw [upd_ne haq]; exact ha
    | tab => unfold bumpS at he; simp only at he; split at he <;> cases he
    | _ => cases he
  · obtain ⟨s, hs, he⟩ := map_get h
    cases s with
    | itm a1 vs1 e1 c1 n1 t1 =>
      cases he
      obtain ⟨h1, h2, h3, h4⟩ := m.itm i _ _ _ _ _ _ hs
      refine ⟨by rw [h1], ?_, h3, h4⟩
      have hne : a ≠ q := fun z => by
        subst z
        rw [hq] at h3; cases h3
        have := List.all_eq_true.mp hl _ (List.mem_of_getElem? hs)
        simp [lockFree] at this
      rw [upd_ne hne]; exact h2
    | tab => unfold bumpS at he; simp only at he; split at he <;> cases he
    | _ => cases he
  · obtain ⟨s, hs, he⟩ := map_get h
    cases s with
    | ownN t1 d1 =>
      cases he
      obtain ⟨p, vs, h1, h2, h3⟩ := m.ownN i _ _ hs
      exact ⟨p, vs, h1, by rw [upd_ne (ne_own i p ⟨h1, .inr ⟨_, _, hs⟩⟩)]; exact h2, h3⟩
    | tab => unfold bumpS at he; simp only at he; split at he <;> cases he
    | _ => cases he
  · obtain ⟨s, hs, he⟩ := map_get h
    cases s with
    | tab e1 c1 n1 m1 dss1 =>
      unfold bumpS at he
      simp only at he
      split at he
      · cases he
      · rename_i hne
        cases he
        obtain ⟨h1, h0, q', vs', h2, h3, h4, h5⟩ := m.tab i _ _ _ _ _ hs
        have nq : ∀ a n t, Φ a = some (e, n, t) → a ≠ q := fun a n t z y => by
          rw [y, hq] at z; cases z; exact hne rfl
        exact ⟨by rw [h1], h0, q', vs', h2, h3, by rw [upd_ne (nq _ _ _ h3)]; exact h4, h5.up (Ex.refl _) (fun _ z => z) (fun p ws z z2 => by rw [upd_ne (nq _ _ _ z)]; exact z2)⟩
    | _ => cases he
/-- slot i has a list of the trees, of time ep, with items known by t, not longer than n + c -/
def ListAt (env : List Sl) (i ep c n : Nat) (t : Ty) : Prop := (∃ d, env[i]? = some (.mes ep c (.L n t) d)) ∨ ∃ a vs n', env[i]? = some (.itm a vs ep c n' (.L n t))
theorem ListAt.get {F H H0 : Hp} {σ : St} {Φ : Reg} {i ep n c0 : Nat} (h : ListAt env i ep c n t) (m : Mes K H0 env σ F H Φ c0) : c = c0 ∧ ∃ q us, σ[i]? = some (some (.ref q)) ∧ Φ q = some (ep, n, t) ∧ H q = some (.lst us) ∧ us.length ≤ n + t.cnt c ∧ ∀ w ∈ us, VT K F Φ ep t w := by
  rcases h with ⟨d, h⟩ | ⟨a, vs, n', h⟩
  · obtain ⟨rfl, v, h1, ⟨q, rfl, h2⟩, _⟩ := m.mes i _ _ _ _ h
    obtain ⟨_, _, _, us, b1, b2, b3⟩ := m.reg q _ _ _ h2
    exact ⟨rfl, q, us, h1, h2, b1, b2, b3⟩
  · obtain ⟨rfl, _, _, v, h1, q, rfl, h2⟩ := m.itm i _ _ _ _ _ _ h
    obtain ⟨_, _, _, us, b1, b2, b3⟩ := m.reg q _ _ _ h2
    exact ⟨rfl, q, us, h1, h2, b1, b2, b3⟩
theorem s_appM {ep n : Nat} (i : Nat) (hi : X.N[i]? = some x) (hv : Vis X.env.scope x) (ho : ListAt env i ep c n t) (hep : ep ≠ 0) (he : PE X e (tE X.K true env d)) (hvt : ∀ (F : Hp) (Φ : Reg) (v : V), Dq X.K F v d → VT X.K F Φ ep t v) (hz : n + c < sizeLine) (hlf : ∀ c, t.cnt c = c) (hl : env.all (lockFree ep t.tag) = true) (h : E.nx (env.map (bumpS ep)))
    (hd : (x == ("__debug__" : Str)) = false := by decide) (hcd : (x == ("__classdict__" : Str)) = false := by decide) (na : NS X e := by exact fun _ => rfl)
    (hbase : attributeBase (.Name x p1) "append" X.env (eval (.Name x p1) X.env) = eval (.Name x p1) X.env := by rfl) (hline : (p2.endLine == p3.line) = true := by rfl)
    (hs : swapsWith (.Call (.Attribute (.Name x p1) "append" p2) [e] [] p3) none pos.line X.env = pure false := by rfl) : PS X (.Expr (.Call (.Attribute (.Name x p1) "append" p2) [e] [] p3) pos) (tS X.K env E) :=
  psmono (ps_expr (pe_bm (hline := hline) PySem.F.plainAttrs_list PySem.F.slot_list_append PySem.F.type_list_append mt_append (pe_var hi hv hd hcd) (pa_cons he pa_nil (na [])) (hs := na []) (hfew := by rw [na []]; rfl) (hbase := hbase)) hs) fun D σ H ⟨F0, H0, F, ok, nx, _⟩ => by
    obtain ⟨Φ, c0, m⟩ := ok.tre
    obtain ⟨rfl, q, us, h1, h2, h3, h4, h5⟩ := ho.get m
    refine ⟨.ref q, h1, .inl ⟨rfl, _, .inl (.inl h3)⟩, F0, H0, F, ok, fun v F1 H1 g1 x1 => ?_⟩
    exact ⟨q, us, v, rfl, rfl, g1.hh _ _ h3, by rw [hlf] at h4; omega, nx _ _ F1 _ h ((ok.grow g1).bump (m.grow g1 ok.g.fh ok.g.hh) h2 hep (g1.hh _ _ h3) (hvt F1 Φ v x1) hlf hl)⟩

/-! for item in a list of a tree -/
structure IterOf (a : Addr) (J : It) : Prop where
  go : ∀ (i : Nat) (H : Hp) vs, H a = some (.lst vs) → i < vs.length → J.go i H
  stop : ∀ (i : Nat) (H : Hp) vs, H a = some (.lst vs) → vs.length ≤ i → J.stop i H
  yld : ∀ (i : Nat) (H : Hp) vs x H', H a = some (.lst vs) → J.yld i H x H' → H' = H ∧ vs[i]? = some x
def tG (K : KF) (ep c n : Nat) (t : Ty) (env : List Sl) : TI := fun σ H R => ∃ F0 H0 F Φ, Ok K F0 H0 env σ F H ∧ Mes K H0 env σ F H Φ c ∧ ∀ J F' H' a vs, Grow F H F' H' → H' a = some (.lst vs) → IterOf a J → (Φ a = some (ep, n, t) ∨ (H a = none ∧ F' a = none ∧ vs.length ≤ n + t.cnt c ∧ ∀ w ∈ vs, VT K F' Φ ep t w)) → R J H'
theorem iter_of {K : KF} {a : Addr} : IterOf a (Itl K a) := ⟨fun i H ws h hi => ⟨ws, ws[i], sqOf h, List.getElem?_eq_getElem hi⟩, fun i H ws h hi => ⟨ws, sqOf h, hi⟩, fun i H ws x H' h hy => by
  obtain ⟨rfl, hy⟩ := hy
  exact ⟨rfl, hy ws (sqOf h)⟩⟩
end
end D3
namespace D3
open PySem PySem.Spec L2 PyProof.Rows
section
variable {X : Cx} {K : KF} {e a b e1 e2 iter : Expr} {es : List Expr} {env env' : List Sl} {d : PyData} {ds rs : List PyData} {pos p1 p2 p3 p : Pos} {t : Ty} {E : DE} {body rest sts : List Stmt} {k n c : Nat} {x y : Str}
/-- a list that is itself of the trees -/
theorem g_name {tg : Expr} {ep n : Nat} (i : Nat) (hi : X.N[i]? = some x) (hv : Vis X.env.scope x) (ho : ListAt env i ep c n t) (hd : (x == ("__debug__" : Str)) = false := by decide) (hcd : (x == ("__classdict__" : Str)) = false := by decide) : PI X tg (.Name x pos) (tG X.K ep c n t env) :=
  pimono (pi_list (pe_var hi hv hd hcd)) fun σ H R ⟨F0, H0, F, Φ, ok, m, r⟩ => by
    obtain ⟨_, q, us, h1, h2, h3, h4, h5⟩ := ho.get m
    exact ⟨.ref q, h1, q, rfl, ⟨us, sqOf h3⟩, r _ F H q us (Grow.refl ok.g.fh) h3 iter_of (.inl h2)⟩
/-- x + y: of two lists of the trees -/
theorem g_cat {tg : Expr} {ep n1 n2 : Nat} (i j : Nat) (hi : X.N[i]? = some x) (hv : Vis X.env.scope x) (ho : ListAt env i ep c n1 t) (hj : X.N[j]? = some y) (hv2 : Vis X.env.scope y) (ho2 : ListAt env j ep c n2 t) (hz : n1 + n2 + 2 * c ≤ sizeLine)
    (hd : (x == ("__debug__" : Str)) = false := by decide) (hcd : (x == ("__classdict__" : Str)) = false := by decide) (hd2 : (y == ("__debug__" : Str)) = false := by decide) (hcd2 : (y == ("__classdict__" : Str)) = false := by decide) : PI X tg (.BinOp (.Name x p1) .Add (.Name y p2) pos) (tG X.K ep c (n1 + n2 + t.cnt c) t env) :=
  pimono (pi_list (pe_op op_cat (pe_var hi hv hd hcd) (pe_var hj hv2 hd2 hcd2))) fun σ H R ⟨F0, H0, F, Φ, ok, m, r⟩ => by
    obtain ⟨_, q, us, h1, h2, h3, h4, h5⟩ := ho.get m
    obtain ⟨_, q', us', h1', h2', h3', h4', h5'⟩ := ho2.get m
    have hcl := Ty.cnt_le c t
    refine ⟨.ref q, h1, .ref q', h1', q, q', us, us', rfl, rfl, h3, h3', by omega, fun l hl => ⟨l, rfl, ⟨_, sqOf upd_same⟩, r _ F _ l (us ++ us') (Grow.own ok.g.fh hl) upd_same iter_of (.inr ⟨hl, ok.g.fh.back hl, by rw [List.length_append]; omega, fun w hw => ?_⟩)⟩⟩
    rcases List.mem_append.mp hw with hw | hw
    · exact h5 w hw
    · exact h5' w hw
theorem c_forM {ep n c0 j : Nat} (T : Nat → List Sl) (C : Nat → Nat) (hp : PassesOwn (model X.prog X.w) X.A X.env X.xe) (hi : PI X (.Name y p3) iter (tG X.K ep c0 n t env)) (hN : X.N.Nodup) (hj : X.N[j]? = some y) (hpin : Pin env c0) (hC : C 0 = c0) (hep : ep ≠ 0) (h0 : LeE env (T 0)) (hjl : j < env.length) (hT : ∀ i, (T i).length = env.length)
    (hb : ∀ (i : Nat) (la : Addr) (vs : List V), i < vs.length → vs.length ≤ n + t.cnt c0 → PSs X body (tS X.K ((T i).set j (.itm la vs ep (C i) n t)) ⟨fun e => LeE e ((T (i + 1)).set j (.itm la vs ep (C (i + 1)) n t)), E.rt, fun _ => False, fun e => LeE e ((T (i + 1)).set j (.itm la vs ep (C (i + 1)) n t))⟩))
    (hd : ∀ m, m ≤ n + t.cnt c0 → PSs X rest (tS X.K ((T m).set j .no) E)) (hx : Loc X.env.scope y := by first | exact .inl rfl | exact .inr rfl) (hf : X.fn y = true ∨ X.env.scope.names.lookup y = some .local := by first | exact .inl rfl | exact .inr rfl)
    (hc : X.calm = true := by rfl) (hs : ∀ x, foldedSetIterable iter X.env x = pure x := by intro _; rfl) : PSs X (.For (.Name y p3) iter body [] pos :: rest) (tS X.K env E) := by
  refine s_cons (M := fun e => ∃ m, m ≤ n + t.cnt c0 ∧ e = (T m).set j .no) (psmono (ps_for (tb := fun D σ H => ∃ (i : Nat) (la : Addr) (vs : List V), (i < vs.length ∧ vs.length ≤ n + t.cnt c0) ∧ tS X.K ((T i).set j (.itm la vs ep (C i) n t)) ⟨fun e => LeE e ((T (i + 1)).set j (.itm la vs ep (C (i + 1)) n t)), E.rt, fun _ => False, fun e => LeE e ((T (i + 1)).set j (.itm la vs ep (C (i + 1)) n t))⟩ D σ H) hp hc hi (pg_name hN hj hx hf)
    ⟨fun pins s σ H D J ⟨i, la, vs, h, q⟩ => (hb i la vs h.1 h.2).run pins s σ H D J q⟩ hs) fun D σ H ⟨F0, H0, F, ok, nx, bk, ct, rt⟩ => ?_) (fun e ⟨m, hm, he⟩ => he ▸ hd m hm)
  obtain ⟨Φ, m⟩ := ok.pin hpin
  refine ⟨F0, H0, F, Φ, ok, m, fun J F1 H1 la vs g1 ha it hcase => ?_⟩
  have gb : Grow F0 H0 F1 H1 := ok.g.trans g1
  have o1 := ok.grow g1
  have hlen : vs.length ≤ n + t.cnt c0 := by
    rcases hcase with h | h
    · obtain ⟨_, _, _, us, b1, b2, _⟩ := m.reg la _ _ _ h
      have := g1.hh _ _ b1
      rw [ha] at this; cases this
      exact b2
    · exact h.2.2.1
  have start : ∃ Φ1, Mes X.K H0 env σ F1 H1 Φ1 c0 ∧ Φ1 la = some (ep, n, t) := by
    rcases hcase with h | ⟨h, h', h2, h3⟩
    · exact ⟨Φ, m.grow g1 ok.g.fh ok.g.hh, h⟩
    · have xr : ExR Φ (fun a => if a = la then some (ep, n, t) else Φ a) := fun a q hq => by
        have : a ≠ la := fun z => by
          subst z
          rw [m.free h] at hq; cases hq
        simp only [if_neg this]; exact hq
      refine ⟨fun a => if a = la then some (ep, n, t) else Φ a, m.growR g1 ok.g.fh ok.g.hh xr (fun a e' n' u hu hn => ?_), by simp⟩
      by_cases hal : a = la
      · subst hal
        simp only [if_true] at hu
        cases hu
        exact ⟨h, fun z => absurd z hep, fun _ => h', vs, ha, h2, fun w hw => VT.up (Ex.refl _) xr _ _ (h3 w hw)⟩
      · simp only [if_neg hal] at hu
        rw [hn] at hu; cases hu
  obtain ⟨Φ1, m1, hla⟩ := start
  have weak0 : ∀ {env1 env2 : List Sl} {σ' F' H' Φ' c'}, LeE env1 env2 → Mes X.K H0 env1 σ' F' H' Φ' c' → Mes X.K H0 env2 σ' F' H' Φ' c' := fun hle mm => mm.weak fun i s hs hne => hle.get hs hne
  refine ⟨fun i r σ' H' => i ≤ vs.length ∧ r = vs.length - i ∧ ∃ F' Φ', Ok X.K F0 H0 ((T i).set j .no) σ' F' H' ∧ Mes X.K H0 ((T i).set j .no) σ' F' H' Φ' (C i) ∧ Φ' la = some (ep, n, t) ∧ H' la = some (.lst vs) ∧ Ex F1 F' ∧ (T i).length = env.length, ⟨vs.length, Nat.zero_le _, rfl, F1, Φ1, (o1.le h0).forget j, (weak0 h0 (hC ▸ m1)).setE trivial, hla, ha, Ex.refl _, h0.len.symm⟩, ?_⟩
  rintro i r σ' H' ⟨hle, rfl, F', Φ', ok', m', hΦ, hH, ex, hlenT⟩
  by_cases hlt : i < vs.length
  · refine .inr ⟨it.go i H' vs hH hlt, fun σ2 H2 => ∃ F2 Φ2, Ok X.K F0 H0 ((T (i + 1)).set j .no) σ2 F2 H2 ∧ Mes X.K H0 ((T (i + 1)).set j .no) σ2 F2 H2 Φ2 (C (i + 1)) ∧ Φ2 la = some (ep, n, t) ∧ H2 la = some (.lst vs) ∧ Ex F1 F2 ∧ (T (i + 1)).length = env.length, fun σ2 H2 ⟨F2, Φ2, q⟩ => ⟨vs.length - (i + 1), by omega, hlt, rfl, F2, Φ2, q⟩, fun v H3 hy => ?_⟩
    obtain ⟨rfl, hv⟩ := it.yld i H' vs v _ hH hy
    have hjσ : j < σ'.length := by rw [ok'.len, List.length_set, hlenT]; exact hjl
    obtain ⟨_, _, _, us, b1, _, b3⟩ := m'.reg la _ _ _ hΦ
    rw [hH] at b1; cases b1
    have vt := b3 v (List.mem_of_getElem? hv)
    have m4 : Mes X.K H0 ((T i).set j (.itm la vs ep (C i) n t)) (σ'.set j (some v)) F' H3 Φ' (C i) := by
      have := m'.setM (i := j) (s := .itm la vs ep (C i) n t) (v := v) hjσ (.inr ⟨la, vs, ep, n, t, rfl, hH, hΦ, vt⟩)
      rwa [List.set_set] at this
    have ok4 : Ok X.K F0 H0 ((T i).set j (.itm la vs ep (C i) n t)) (σ'.set j (some v)) F' H3 := by
      have := ok'.setT (i := j) (s := .itm la vs ep (C i) n t) (x := some v) trivial ⟨Φ', C i, by rw [List.set_set]; exact m4⟩
      rwa [List.set_set] at this
    have fin : ∀ e2 σ2 F2 H2, LeE e2 ((T (i + 1)).set j (.itm la vs ep (C (i + 1)) n t)) → Ok X.K F1 H0 e2 σ2 F2 H2 → ∃ F2 Φ2, Ok X.K F0 H0 ((T (i + 1)).set j .no) σ2 F2 H2 ∧ Mes X.K H0 ((T (i + 1)).set j .no) σ2 F2 H2 Φ2 (C (i + 1)) ∧ Φ2 la = some (ep, n, t) ∧ H2 la = some (.lst vs) ∧ Ex F1 F2 ∧ (T (i + 1)).length = env.length := fun e2 σ2 F2 H2 h2 ok2 => by
      have hl2 := hT (i + 1)
      have ok3 := (ok2.unbase gb).le h2
      obtain ⟨Φ2, c2, m2⟩ := ok3.tre
      have hget : ((T (i + 1)).set j (.itm la vs ep (C (i + 1)) n t))[j]? = some (.itm la vs ep (C (i + 1)) n t) := List.getElem?_set_self (by rw [hl2]; exact hjl)
      obtain ⟨b1, b2, b3, _⟩ := m2.itm j _ _ _ _ _ _ hget
      subst b1
      refine ⟨F2, Φ2, ?_, ?_, b3, b2, ok2.g.ff, hl2⟩
      · have := ok3.forget j
        rwa [List.set_set] at this
      · have := m2.setE (i := j) (s := .no) trivial
        rwa [List.set_set] at this
    exact ⟨i, la, vs, ⟨hlt, hlen⟩, F1, H0, F', ok4.rebase gb ex, fin, fun _ _ _ _ z => z.elim, fin, fun r hr => (rt r hr).rebase gb⟩
  · have e : i = vs.length := by omega
    subst e
    exact .inl ⟨it.stop _ H' vs hH (Nat.le_refl _), nx _ σ' F' H' ⟨vs.length, hlen, rfl⟩ ok'⟩
theorem eqv_int (i j : Int) : PyData.eqv (.int j) (.int i) = decide (i = j) := by
  have := eqI.eq j i
  rw [this]
  exact decide_eq_decide.mpr ⟨fun h => h.symm, fun h => h.symm⟩
theorem c_inI {i : Int} {xs : List Int} {m m1 m2 : Bool} (hu : X.A.units + 65 < cLine) (ha : PE X a (tE X.K m1 env (.int i))) (hb : PE X b (tE X.K m2 env (eL .int xs))) (hm : behindInMarks .In b = false := by rfl) : (PE X (.Compare a [.In] [b] pos) (tE X.K m env (.bool (decide (i ∈ xs))))) ∧ PT X (.Compare a [.In] [b] pos) (tT X.K env (decide (i ∈ xs))) :=
  cmpE (op_inD hu) ha hb hm fun x y H Q hx hy q => by
    refine ⟨.int i, xs.map .int, Dq.dp _ _ hx, Dq.dp _ _ hy, rfl, shaped_ints xs, ?_⟩
    have : ((xs.map PyData.int).any fun z => PyData.eqv z (.int i)) = decide (i ∈ xs) := by
      clear hy hb q
      induction xs with
      | nil => rfl
      | cons z zs ih =>
        rw [List.map_cons, List.any_cons, ih, eqv_int]
        by_cases h : i = z <;> by_cases h2 : i ∈ zs <;> simp [h, h2]
    rw [this]; exact q
theorem s_appNG {α : Type} {enc : α → PyData} {zs : List α} {z : α} (i : Nat) (hi : X.N[i]? = some x) (hv : Vis X.env.scope x) (ho : env[i]? = some (.ownN t (zs.map enc))) (he : PE X e (tN X.K t env (enc z))) (hz : zs.length < sizeLine) (h : E.nx (env.set i (.ownN t ((zs ++ [z]).map enc))))
    (hd : (x == ("__debug__" : Str)) = false := by decide) (hcd : (x == ("__classdict__" : Str)) = false := by decide) (na : NS X e := by exact fun _ => rfl)
    (hbase : attributeBase (.Name x p1) "append" X.env (eval (.Name x p1) X.env) = eval (.Name x p1) X.env := by rfl) (hline : (p2.endLine == p3.line) = true := by rfl)
    (hs : swapsWith (.Call (.Attribute (.Name x p1) "append" p2) [e] [] p3) none pos.line X.env = pure false := by rfl) : PS X (.Expr (.Call (.Attribute (.Name x p1) "append" p2) [e] [] p3) pos) (tS X.K env E) :=
  s_appN i hi hv ho he (by rw [List.length_map]; exact hz) (by rw [List.map_append] at h; exact h) hd hcd na hbase hline hs
theorem s_retNewG {α : Type} {enc : α → PyData} {zs : List α} {n : Nat} (i : Nat) (hi : X.N[i]? = some x) (hv : Vis X.env.scope x) (ho : env[i]? = some (.ownN t (zs.map enc))) (hl : zs.length ≤ n) (h : E.rt (.new (.L n t) (eL enc zs))) (hd : (x == ("__debug__" : Str)) = false := by decide) (hcd : (x == ("__classdict__" : Str)) = false := by decide) : PS X (.Return (some (.Name x p1)) pos) (tS K env E) :=
  s_retNew i hi hv ho (by rw [List.length_map]; exact hl) h hd hcd
theorem hu65 {k : Nat} {A : Around} (hr : Room k A) : A.units + 65 < cLine := by have := hr.un; omega
end
end D3
namespace D3
open PySem PySem.Spec L2 PyProof.Rows
def weakT : Ty → Ty
  | .L n _ => .L n .any
  | _ => .any
/-- a list of a tree got anything: from now on nothing is known of the items of that time's lists -/
def bumpU (e : Nat) : Sl → Sl
  | .mes e' c t d => .mes e' (c + 1) (if e' = e then weakT t else t) (if e ≤ e' then none else d)
  | .itm a vs e' c n t => .itm a vs e' (c + 1) n t
  | .tab e' c n m dss => if e' = e then .no else .tab e' (c + 1) n m dss
  | .tr _ _ => .no
  | s => s
/-- nothing is known of the items of that time's lists -/
def weakS (ep : Nat) : Sl → Sl
  | .mes e' c t d => .mes e' c (if e' = ep then weakT t else t) d
  | .tab e' c n m dss => if e' = ep then .no else .tab e' c n m dss
  | .tr _ _ => .no
  | s => s
def noItm (e : Nat) : Sl → Bool
  | .itm _ _ e' _ _ _ => !(e' == e)
  | _ => true
section
variable {X : Cx} {K : KF} {e a b e1 e2 iter : Expr} {es : List Expr} {env env' : List Sl} {d : PyData} {ds rs : List PyData} {pos p1 p2 p3 p : Pos} {t : Ty} {E : DE} {body rest sts : List Stmt} {k n c : Nat} {x y : Str}
def weakR (ep : Nat) (Φ : Reg) : Reg := fun a => match Φ a with
  | some (e, n, t) => some (e, n, if e = ep then .any else t)
  | none => none
theorem weakR_none {ep : Nat} {Φ : Reg} {a : Addr} (h : Φ a = none) : weakR ep Φ a = none := by unfold weakR; rw [h]
theorem weakR_some {ep e n : Nat} {t : Ty} {Φ : Reg} {a : Addr} (h : Φ a = some (e, n, t)) : weakR ep Φ a = some (e, n, if e = ep then .any else t) := by unfold weakR; rw [h]
theorem weakR_get {ep e n : Nat} {t : Ty} {Φ : Reg} {a : Addr} (h : weakR ep Φ a = some (e, n, t)) : ∃ t0, Φ a = some (e, n, t0) ∧ t = if e = ep then .any else t0 := by
  unfold weakR at h
  cases hq : Φ a with
  | none => rw [hq] at h; cases h
  | some q =>
    obtain ⟨e0, n0, t0⟩ := q
    rw [hq] at h
    cases h
    exact ⟨t0, rfl, rfl⟩
theorem VT.weak {F : Hp} {Φ : Reg} {ep : Nat} {v : V} (h : VT K F Φ ep t v) : VT K F (weakR ep Φ) ep (weakT t) v := by
  cases t with
  | L n t =>
    obtain ⟨a, h1, h2⟩ := h
    exact ⟨a, h1, by rw [weakR_some h2, if_pos rfl]⟩
  | _ => trivial
theorem VT.other {F : Hp} {Φ : Reg} {ep e : Nat} (he : e ≠ ep) : ∀ (t : Ty) (v : V), VT K F Φ e t v → VT K F (weakR ep Φ) e t v :=
  VT.upE (fun a us z => z) fun a m u z => by rw [weakR_some z, if_neg he]
theorem Mes.weaken {F H H0 : Hp} {σ : St} {Φ : Reg} {ep : Nat} (m : Mes K H0 env σ F H Φ c) (hep : ep ≠ 0) (hl : env.all (noItm ep) = true) : Mes K H0 (env.map (weakS ep)) σ F H (weakR ep Φ) c := by
  have os : ∀ i p, OwnS (env.map (weakS ep)) σ i p → OwnS env σ i p := fun i p h => own_map (fun s ds z => by cases s <;> first | exact z | cases z | (unfold weakS at z; simp only at z; split at z <;> cases z)) (fun s t ds z => by cases s <;> first | exact z | cases z | (unfold weakS at z; simp only at z; split at z <;> cases z)) h
  refine ⟨fun a e n t h => ?_, fun i p h => ?_, fun i j p h1 h2 => m.sep i j p (os i p h1) (os j p h2), fun i e c' t d h => ?_, fun i a vs e c' n t h => ?_, fun i t ds h => ?_, fun i e c' n m' dss h => ?_, TrF.none fun i v t h => by
    obtain ⟨s, hs, he⟩ := map_get h
    cases s with
    | tab => unfold weakS at he; simp only at he; split at he <;> cases he
    | _ => cases he⟩
  · obtain ⟨t0, h1, h2⟩ := weakR_get h
    obtain ⟨b1, b2, b3, vs, b4, b5, b6⟩ := m.reg a e n t0 h1
    refine ⟨b1, b2, b3, vs, b4, ?_, fun w hw => ?_⟩
    · by_cases he : e = ep
      · rw [if_pos he] at h2; subst h2
        have := Ty.cnt_le c t0
        show vs.length ≤ n + c
        omega
      · rw [if_neg he] at h2; subst h2; exact b5
    by_cases he : e = ep
    · rw [if_pos he] at h2; subst h2; trivial
    · rw [if_neg he] at h2; subst h2; exact VT.other he _ _ (b6 w hw)
  · obtain ⟨b1, b2⟩ := m.own i p (os i p h)
    exact ⟨weakR_none b1, b2⟩
  · obtain ⟨s, hs, he⟩ := map_get h
    cases s with
    | mes e1 c1 t1 d1 =>
      cases he
      obtain ⟨h1, v, h2, h3, h4⟩ := m.mes i _ _ _ _ hs
      refine ⟨h1, v, h2, ?_, fun x z => (h4 x z).up fun a o ha => ?_⟩
      · by_cases hq : e = ep
        · subst hq; rw [if_pos rfl]; exact h3.weak
        · rw [if_neg hq]; exact VT.other hq _ _ h3
      · unfold mixH at ha ⊢
        cases hφ : Φ a with
        | none => rw [weakR_none hφ]; rw [hφ] at ha; exact ha
        | some z =>
          obtain ⟨e0, n0, t0⟩ := z
          rw [weakR_some hφ]; rw [hφ] at ha; exact ha
    | tab => unfold weakS at he; simp only at he; split at he <;> cases he
    | _ => cases he
  · obtain ⟨s, hs, he⟩ := map_get h
    cases s with
    | itm a1 vs1 e1 c1 n1 t1 =>
      cases he
      obtain ⟨h1, h2, h3, v, h4, h5⟩ := m.itm i _ _ _ _ _ _ hs
      have hne : e ≠ ep := fun z => by
        have := List.all_eq_true.mp hl _ (List.mem_of_getElem? hs)
        simp [noItm, z] at this
      exact ⟨h1, h2, by rw [weakR_some h3, if_neg hne], v, h4, VT.other hne _ _ h5⟩
    | tab => unfold weakS at he; simp only at he; split at he <;> cases he
    | _ => cases he
  · obtain ⟨s, hs, he⟩ := map_get h
    cases s with
    | ownN t1 d1 =>
      cases he
      obtain ⟨p, vs, h1, h2, h3, h4⟩ := m.ownN i _ _ hs
      exact ⟨p, vs, h1, h2, h3, fun w hw => VT.other (fun z => hep z.symm) _ _ (h4 w hw)⟩
    | tab => unfold weakS at he; simp only at he; split at he <;> cases he
    | _ => cases he
  · obtain ⟨s, hs, he⟩ := map_get h
    cases s with
    | tab e1 c1 n1 m1 dss1 =>
      unfold weakS at he
      simp only at he
      split at he
      · cases he
      · rename_i hne
        cases he
        obtain ⟨h1, h0, q', vs', h2, h3, h4, h5⟩ := m.tab i _ _ _ _ _ hs
        exact ⟨h1, h0, q', vs', h2, by rw [weakR_some h3, if_neg hne], h4, h5.up (Ex.refl _) (fun p z => by rw [weakR_some z, if_neg hne]) (fun _ _ _ z => z)⟩
    | _ => cases he
theorem s_appU {ep n : Nat} (i : Nat) (hi : X.N[i]? = some x) (hv : Vis X.env.scope x) (ho : ListAt env i ep c n t) (hep : ep ≠ 0) (he : PE X e (tE X.K true env d)) (hz : n + c < sizeLine) (hl : env.all (noItm ep) = true) (h : E.nx (env.map (bumpU ep)))
    (hd : (x == ("__debug__" : Str)) = false := by decide) (hcd : (x == ("__classdict__" : Str)) = false := by decide) (na : NS X e := by exact fun _ => rfl)
    (hbase : attributeBase (.Name x p1) "append" X.env (eval (.Name x p1) X.env) = eval (.Name x p1) X.env := by rfl) (hline : (p2.endLine == p3.line) = true := by rfl)
    (hs : swapsWith (.Call (.Attribute (.Name x p1) "append" p2) [e] [] p3) none pos.line X.env = pure false := by rfl) : PS X (.Expr (.Call (.Attribute (.Name x p1) "append" p2) [e] [] p3) pos) (tS X.K env E) :=
  psmono (ps_expr (pe_bm (hline := hline) PySem.F.plainAttrs_list PySem.F.slot_list_append PySem.F.type_list_append mt_append (pe_var hi hv hd hcd) (pa_cons he pa_nil (na [])) (hs := na []) (hfew := by rw [na []]; rfl) (hbase := hbase)) hs) fun D σ H ⟨F0, H0, F, ok, nx, _⟩ => by
    obtain ⟨Φ, c0, m⟩ := ok.tre
    obtain ⟨rfl, q, us, h1, h2, h3, h4, h5⟩ := ho.get m
    refine ⟨.ref q, h1, .inl ⟨rfl, _, .inl (.inl h3)⟩, F0, H0, F, ok, fun v F1 H1 g1 x1 => ?_⟩
    have m1 := (m.grow g1 ok.g.fh ok.g.hh).weaken (ep := ep) hep hl
    have ok1 := (ok.grow g1).mapT (f := weakS ep) (fun s => by cases s <;> first | exact .inl rfl | exact .inr (.inl trivial) | exact .inr (.inr rfl) | (unfold weakS; simp only; split <;> first | exact .inr (.inr rfl) | exact .inl rfl)) ⟨_, _, m1⟩
    have hlk : (env.map (weakS ep)).all (lockFree ep Ty.any.tag) = true := by
      rw [List.all_eq_true]
      intro s hs
      obtain ⟨s0, hs0, rfl⟩ := List.mem_map.mp hs
      have := List.all_eq_true.mp hl s0 hs0
      cases s0 with
      | itm a1 vs1 e1 c1 n1 t1 =>
        have this : (!(e1 == ep)) = true := this
        show (!(e1 == ep) || _) = true
        rw [this]; rfl
      | tab => unfold weakS; simp only; split <;> rfl
      | _ => rfl
    have okb := ok1.bump m1 (q := q) (n := n) (t := .any) (w := v) (by rw [weakR_some h2, if_pos rfl]) hep (g1.hh _ _ h3) trivial (fun _ => rfl) hlk
    have e3 : ((env.map (weakS ep)).map (bumpS ep)) = env.map (bumpU ep) := by
      rw [List.map_map]
      refine List.map_congr_left fun s _ => ?_
      cases s with
      | tab e1 c1 n1 m1 dss =>
        show bumpS ep (weakS ep (.tab e1 c1 n1 m1 dss)) = bumpU ep (.tab e1 c1 n1 m1 dss)
        unfold weakS bumpU
        simp only
        by_cases h : e1 = ep
        · rw [if_pos h, if_pos h]; rfl
        · rw [if_neg h, if_neg h]; unfold bumpS; simp only; rw [if_neg h]
      | _ => rfl
    rw [e3] at okb
    have hcl := Ty.cnt_le c t
    exact ⟨q, us, v, rfl, rfl, g1.hh _ _ h3, by omega, nx _ _ F1 _ h okb⟩
theorem setAll_len (env : List Sl) : ∀ us : List (Nat × Sl), (setAll env us).length = env.length
  | [] => rfl
  | u :: us => by
    unfold setAll
    first
    | (rw [setAll_len]; simp; done)
    | (rw [List.length_set, setAll_len])
theorem c_forMU {ep n c0 j : Nat} (U : Nat → List (Nat × Sl)) (C : Nat → Nat) (hp : PassesOwn (model X.prog X.w) X.A X.env X.xe) (hi : PI X (.Name y p3) iter (tG X.K ep c0 n t env)) (hN : X.N.Nodup) (hj : X.N[j]? = some y) (hpin : Pin env c0) (hC : C 0 = c0) (hep : ep ≠ 0) (h0 : LeE env (setAll env (U 0))) (hjl : j < env.length)
    (hb : ∀ (i : Nat) (la : Addr) (vs : List V), i < vs.length → vs.length ≤ n + t.cnt c0 → PSs X body (tS X.K ((setAll env (U i)).set j (.itm la vs ep (C i) n t)) ⟨fun e => LeE e ((setAll env (U (i + 1))).set j (.itm la vs ep (C (i + 1)) n t)), E.rt, fun _ => False, fun e => LeE e ((setAll env (U (i + 1))).set j (.itm la vs ep (C (i + 1)) n t))⟩))
    (hd : ∀ m, m ≤ n + t.cnt c0 → PSs X rest (tS X.K ((setAll env (U m)).set j .no) E)) (hx : Loc X.env.scope y := by first | exact .inl rfl | exact .inr rfl) (hf : X.fn y = true ∨ X.env.scope.names.lookup y = some .local := by first | exact .inl rfl | exact .inr rfl)
    (hc : X.calm = true := by rfl) (hs : ∀ x, foldedSetIterable iter X.env x = pure x := by intro _; rfl) : PSs X (.For (.Name y p3) iter body [] pos :: rest) (tS X.K env E) :=
  c_forM (fun i => setAll env (U i)) C hp hi hN hj hpin hC hep h0 hjl (fun i => setAll_len env (U i)) hb hd hx hf hc hs
end
end D3
namespace D3
open PySem PySem.Spec L2 PyProof.Rows
def tupT (a b : Ty) : Ty := .T 2 fun i => if i = 0 then a else b
/-- c is raised -/
def cntS (c' : Nat) : Sl → Sl
  | .mes e _ t d => .mes e c' t d
  | .itm a vs e _ n t => .itm a vs e c' n t
  | .tab e _ n m dss => .tab e c' n m dss
  | s => s
section
variable {X : Cx} {K : KF} {e a b e1 e2 iter : Expr} {es : List Expr} {env env' : List Sl} {d d1 d2 : PyData} {ds rs : List PyData} {pos p1 p2 p3 p : Pos} {t t1 t2 : Ty} {E : DE} {body rest sts : List Stmt} {k n c : Nat} {x y : Str}
theorem s_retF (he : PE X e (tF K t env d)) (h : E.rt (.new t d)) : PS X (.Return (some e) pos) (tS K env E) :=
  psmono (ps_ret he) fun D σ H ⟨F0, H0, F, ok, _, _, _, r⟩ => ⟨F0, H0, F, ok, fun v F1 H1 Φ g1 fr x1 vt => r _ h v F1 H1 Φ (ok.g.trans g1) (fun a e n t h => by
    obtain ⟨h1, h2, h3⟩ := fr a e n t h
    exact ⟨h1, ok.g.hh.back h2, h3⟩) x1 vt⟩
theorem Mes.raise {F H H0 : Hp} {σ : St} {Φ : Reg} {c' : Nat} (m : Mes K H0 env σ F H Φ c) (hc : c ≤ c') : Mes K H0 (env.map (cntS c')) σ F H Φ c' := by
  have os : ∀ i p, OwnS (env.map (cntS c')) σ i p → OwnS env σ i p := fun i p h => own_map (fun s ds z => by cases s <;> first | exact z | cases z) (fun s t ds z => by cases s <;> first | exact z | cases z) h
  refine ⟨fun a e n t h => ?_, fun i p h => m.own i p (os i p h), fun i j p h1 h2 => m.sep i j p (os i p h1) (os j p h2), fun i e c1 t d h => ?_, fun i a vs e c1 n t h => ?_, fun i t ds h => ?_, fun i e c1 n m' dss h => ?_, m.tr.of (fun i v t h => by
    obtain ⟨s, hs, he⟩ := map_get h
    cases s with
    | tr => cases he; exact ⟨hs, rfl⟩
    | _ => cases he) (Ex.refl _) fun a z => ⟨z, fun _ y => y⟩⟩
  · obtain ⟨b1, b2, b3, vs, b4, b5, b6⟩ := m.reg a e n t h
    have := Ty.cnt_mono hc t
    exact ⟨b1, b2, b3, vs, b4, by omega, b6⟩
  · obtain ⟨s, hs, he⟩ := map_get h
    cases s with
    | mes e1 c1 t1 d1 =>
      cases he
      obtain ⟨h1, h2⟩ := m.mes i _ _ _ _ hs
      exact ⟨rfl, h2⟩
    | _ => cases he
  · obtain ⟨s, hs, he⟩ := map_get h
    cases s with
    | itm =>
      cases he
      obtain ⟨h1, h2⟩ := m.itm i _ _ _ _ _ _ hs
      exact ⟨rfl, h2⟩
    | _ => cases he
  · obtain ⟨s, hs, he⟩ := map_get h
    cases s with
    | ownN => cases he; exact m.ownN i _ _ hs
    | _ => cases he
  · obtain ⟨s, hs, he⟩ := map_get h
    cases s with
    | tab =>
      cases he
      obtain ⟨h1, h2⟩ := m.tab i _ _ _ _ _ hs
      exact ⟨rfl, h2⟩
    | _ => cases he
theorem s_raiseC (c' : Nat) (hp : Pin env c) (hc : c ≤ c') (h : PSs X sts (tS K (env.map (cntS c')) E)) : PSs X sts (tS K env E) := pssmono h fun D σ H ⟨F0, H0, F, ok, r⟩ => by
  obtain ⟨Φ, m⟩ := ok.pin hp
  exact ⟨F0, H0, F, ok.mapT (fun s => by cases s <;> first | exact .inl rfl | exact .inr (.inl trivial)) ⟨Φ, c', m.raise hc⟩, r⟩
/-- slot i has a tuple of the trees -/
def TupAt (env : List Sl) (i ep c n : Nat) (f : Nat → Ty) : Prop := (∃ d, env[i]? = some (.mes ep c (.T n f) d)) ∨ ∃ a vs n', env[i]? = some (.itm a vs ep c n' (.T n f))
theorem TupAt.get {F H H0 : Hp} {σ : St} {Φ : Reg} {i ep n c0 : Nat} {f : Nat → Ty} (h : TupAt env i ep c n f) (m : Mes K H0 env σ F H Φ c0) : c = c0 ∧ ∃ q us, σ[i]? = some (some (.ref q)) ∧ SqT K F q us ∧ us.length = n ∧ ∀ (j : Nat) w, us[j]? = some w → VT K F Φ ep (f j) w := by
  rcases h with ⟨d, h⟩ | ⟨a, vs, n', h⟩
  · obtain ⟨rfl, v, h1, ⟨q, us, rfl, h2, h3, h4⟩, _⟩ := m.mes i _ _ _ _ h
    exact ⟨rfl, q, us, h1, h2, h3, h4⟩
  · obtain ⟨rfl, _, _, v, h1, q, us, rfl, h2, h3, h4⟩ := m.itm i _ _ _ _ _ _ h
    exact ⟨rfl, q, us, h1, h2, h3, h4⟩
/-- for .. in x[k]: the list at a place of a tuple of the trees -/
theorem g_ixT {tg : Expr} {ep m0 : Nat} {f : Nat → Ty} {kk : Int} {j : Nat} (i : Nat) (hi : X.N[i]? = some x) (hv : Vis X.env.scope x) (ho : TupAt env i ep c m0 f) (hk : PE X b (tC (.int kk))) (hj : ixN m0 kk = some j) (hf : f j = .L n t) (hjl : j < m0) (hs : PlainIx b := by exact fun _ _ => rfl)
    (hd : (x == ("__debug__" : Str)) = false := by decide) (hcd : (x == ("__classdict__" : Str)) = false := by decide) : PI X tg (.Subscript (.Name x p1) b pos) (tG X.K ep c n t env) :=
  pimono (pi_list (pe_ix ix_tup (pe_var hi hv hd hcd) hk hs)) fun σ H R ⟨F0, H0, F, Φ, ok, m, r⟩ => by
    obtain ⟨_, q, us, h1, h2, h3, h4⟩ := ho.get m
    obtain ⟨w, hw⟩ : ∃ w, us[j]? = some w := ⟨us[j], List.getElem?_eq_getElem (by omega)⟩
    have hvt := h4 j w hw
    rw [hf] at hvt
    obtain ⟨l, rfl, hl⟩ := hvt
    obtain ⟨_, _, _, ws, b1, b2, b3⟩ := m.reg l _ _ _ hl
    refine ⟨.ref q, h1, q, us, kk, .ref l, rfl, rfl, ex_t ok.g.fh h2, ?_, l, rfl, ⟨ws, sqOf b1⟩, r _ F H l ws (Grow.refl ok.g.fh) b1 iter_of (.inl hl)⟩
    show L2.atI us kk = _
    unfold L2.atI
    rw [h3, hj]; exact hw
theorem tyx_tup {H : Hp} {q : Addr} {us : List V} (h : SqT K H q us) : TyX K H (.ref q) (.type "tuple") := by
  rcases h with (h1 | ⟨o, h1⟩) | ⟨o, its, n, h1, h2, _⟩
  · exact .base (.tup h1)
  · exact .fTuple h1
  · exact .kTuple h1 h2
/-- isinstance(x, tuple) -/
theorem t_isTup {ep m0 : Nat} {f : Nat → Ty} (i : Nat) (hi : X.N[i]? = some x) (hv : Vis X.env.scope x) (ho : TupAt env i ep c m0 f) (hm : X.mg "isinstance" = none) (hb : PE X b (tC (.ty "tuple"))) (hg : Gl X "isinstance" := by rfl) (nb : NS X b := by exact fun _ => rfl)
    (hd : (x == ("__debug__" : Str)) = false := by decide) (hcd : (x == ("__classdict__" : Str)) = false := by decide) : PE X (.Call (.Name "isinstance" p1) [.Name x p2, b] [] pos) (tE X.K true env (.bool true)) :=
  pmono (pe_callB call_isi hg hm PyProof.Rows.boot_isinstance (pa_cons (pe_var hi hv hd hcd) (pa_cons hb pa_nil (nb []))) (hpl := by rw [nb []]; rfl)) fun σ H Q ⟨F0, H0, F, ok, k⟩ => by
    obtain ⟨Φ, c', m⟩ := ok.tre
    obtain ⟨_, q, us, h1, h2, _⟩ := ho.get m
    exact ⟨.ref q, h1, .ref q, .ty "tuple", _, _, true, rfl, .ty "tuple", tyx_tup (ex_t ok.g.fh h2), kit_ty isi_tuple_tuple, k _ F H (Grow.refl ok.g.fh) (.bl _)⟩
/-- (a, b): data, and a new tree -/
theorem f_tup2 {x1 : Nat} (ha : PE X a (tE X.K true env d1)) (hb : PE X b (tF X.K t env d2)) (na : NS X a := by exact fun _ => rfl) (nb : NS X b := by exact fun _ => rfl) : PE X (.Tuple [a, b] x1 pos) (tF X.K (tupT .any t) env (.tuple [d1, d2])) :=
  pmono (pe_tup (pa_cons ha (pa_cons hb pa_nil (nb [])) (na [b]))) fun σ H Q ⟨F0, H0, F, ok, q⟩ => ⟨F0, H0, F, ok, fun v1 F1 H1 g1 x1 => ⟨F0, H0, F1, ok.grow g1, fun v2 F2 H2 Φ g2 fr x2 vt => ⟨by show 2 ≤ sizeLine; rw [sizeLine_eq]; omega, fun p hp => by
    have hx : Ex F2 (upd F2 p (.tup [v1, v2])) := Ex.new (g2.fh.back hp)
    refine q (.ref p) (upd F2 p (.tup [v1, v2])) _ Φ ((g1.trans g2).trans (Grow.new g2.fh hp)) (fun a e n u h => ?_) (.tup (.inl (.inl upd_same)) (.cons (((show Dq X.K F1 v1 d1 from x1).up g2.ff).up hx) (.cons (x2.up hx) .nil))) ⟨p, [v1, v2], rfl, .inl (.inl upd_same), rfl, fun i w hw => ?_⟩
    · obtain ⟨h1, h2, vs, h3, h4, h5⟩ := fr a e n u h
      exact ⟨h1, g1.hh.back h2, vs, hx _ _ h3, h4, fun w hw => VT.up hx (fun _ _ z => z) _ _ (h5 w hw)⟩
    · match i, hw with
      | 0, _ => trivial
      | 1, hw =>
        have hw : some v2 = some w := hw
        cases hw
        exact VT.up hx (fun _ _ z => z) _ _ vt
      | i + 2, hw => cases hw⟩⟩⟩
theorem f_tup2G {α β : Type} {f : α → PyData} {g : β → PyData} {u : α} {v : β} {x1 : Nat} (ha : PE X a (tE X.K true env (f u))) (hb : PE X b (tF X.K t env (g v))) (na : NS X a := by exact fun _ => rfl) (nb : NS X b := by exact fun _ => rfl) : PE X (.Tuple [a, b] x1 pos) (tF X.K (tupT .any t) env (eT2 f g (u, v))) := f_tup2 ha hb na nb
/-- [e for ..]: each item a new tree -/
theorem lc_readF {α : Type} {zs : List α} {enc : α → PyData} {g : TG} {ix : List Nat} {f : α → List Sl → List Sl} {tb : α → Bool} {y : α → PyData} {own : List Nat} {nn : Nat} (hl : zs.length ≤ 1000000) (hnn : zs.length ≤ nn)
    (hf : ∀ z ∈ zs, Asg K g (enc z) (f z) ix) (hix : ∀ i ∈ ix, i ∈ own) {σ : St} {H : Hp} {Q : VK} (h : tF K (.L nn t) env (.list ((zs.filter tb).map y)) σ H Q) :
    tLc (tI K env (zs.map enc)) g (fun σ H Q => ∃ z, (z ∈ zs) ∧ tT K (f z (wipeE env own)) (tb z) σ H Q) (fun σ H Q => ∃ z, (z ∈ zs ∧ tb z = true) ∧ tF K t (f z (wipeE env own)) (y z) σ H Q) own σ H Q := by
  obtain ⟨F0, H0, F, ok, k⟩ := h
  refine ⟨F0, H0, F, ok, fun J F1 H1 g1 gv D hD => ?_⟩
  have ok1 := ok.grow g1
  refine ⟨fun i n H' => i ≤ zs.length ∧ n = zs.length - i ∧ ∃ F' acc Φ, Grow F1 H1 F' H' ∧ F' D = none ∧ H' D = some (.lst acc) ∧ DqAll K F' acc (((zs.take i).filter tb).map y) ∧ FreshR K H1 F' Φ ∧ ∀ w ∈ acc, VT K F' Φ 0 t w,
    ⟨zs.length, Nat.zero_le _, rfl, F1, [], (fun _ => none), Grow.own g1.fh hD, g1.fh.back hD, upd_same, .nil, (fun a e n u h => by cases h), (fun w hw => by cases hw)⟩, ?_⟩
  rintro i n H' ⟨hi, rfl, F', acc, Φ, g2, fd, hd, ha, hfr, hvt⟩
  by_cases hlt : i < zs.length
  · have hz : zs[i]? = some zs[i] := List.getElem?_eq_getElem hlt
    have hm : zs[i] ∈ zs := List.getElem_mem hlt
    refine .inr ⟨gv.go i F' H' (by rw [List.length_map]; exact hlt) g2.ff g2.fh, fun H2 => ∃ F2 acc Φ, Grow F1 H1 F2 H2 ∧ F2 D = none ∧ H2 D = some (.lst acc) ∧ DqAll K F2 acc (((zs.take (i + 1)).filter tb).map y) ∧ FreshR K H1 F2 Φ ∧ ∀ w ∈ acc, VT K F2 Φ 0 t w, fun H2 ⟨F2, acc2, Φ2, q⟩ => ⟨zs.length - (i + 1), by omega, hlt, rfl, F2, acc2, Φ2, q⟩, fun x H3 hy => ?_⟩
    obtain ⟨F3, g3, x3⟩ := gv.yld i (enc zs[i]) F' H' x H3 (by rw [List.getElem?_map, hz]; rfl) g2.ff g2.fh hy
    have ok3 : Ok K F0 H0 (wipeE env own) (wipe σ own) F3 H3 := (ok1.grow (g2.trans g3)).wiped own
    have hD3 : F3 D = none := g3.old D fd (by rw [hd]; simp)
    have hH3 : H3 D = some (.lst acc) := g3.hh _ _ hd
    refine hf zs[i] hm F0 H0 F3 H3 _ _ x _ ok3 x3 fun σ4 ok4 w4 => ⟨?_, zs[i], hm, F0, H0, F3, ok4, fun F5 H5 g5 => ?_⟩
    · rw [w4 own hix]
      exact wipe_wipe own own fun _ h => h
    · have hD5 : F5 D = none := g5.old D hD3 (by rw [hH3]; simp)
      have hH5 : H5 D = some (.lst acc) := g5.hh _ _ hH3
      have ht : (zs.take (i + 1)) = zs.take i ++ [zs[i]] := by rw [List.take_add_one, hz]; rfl
      have x5 : Ex F' F5 := g3.ff.trans g5.ff
      have fr5 : FreshR K H1 F5 Φ := fun a e n u h => by
        obtain ⟨b1, b2, vs, b3, b4, b5⟩ := hfr a e n u h
        exact ⟨b1, b2, vs, x5 _ _ b3, b4, fun w hw => VT.up x5 (fun _ _ z => z) _ _ (b5 w hw)⟩
      cases hb : tb zs[i] with
      | true =>
        show ∃ z, _
        refine ⟨zs[i], ⟨hm, hb⟩, F0, H0, F5, ok4.grow g5, fun v F6 H6 Φc g6 frc x6 vtc => ?_⟩
        have hD6 : F6 D = none := g6.old D hD5 (by rw [hH5]; simp)
        have xc : ExR Φc (joinR Φ Φc) := fun a z hz => by
          have h5 := (frc a z.1 z.2.1 z.2.2 hz).2.1
          unfold joinR
          cases hq : Φ a with
          | none => exact hz
          | some q =>
            obtain ⟨_, _, vs, b3, _⟩ := fr5 a q.1 q.2.1 q.2.2 hq
            rw [g5.fh _ _ b3] at h5; cases h5
        have xp : ExR Φ (joinR Φ Φc) := fun a z hz => by unfold joinR; rw [hz]
        refine ⟨acc, g6.hh _ _ hH5, ?_, F6, acc ++ [v], joinR Φ Φc, ?_, hD6, upd_same, ?_, fun a e n u h => ?_, fun w hw => ?_⟩
        · have h1 := ha.length
          have h2 : (((zs.take i).filter tb).map y).length ≤ zs.length := by
            rw [List.length_map]
            exact Nat.le_trans (List.length_filter_le _ _) (by rw [List.length_take]; omega)
          have h3 : sizeLine = 16777216 := sizeLine_eq
          omega
        · exact ((((g2.trans g3).trans g5).trans g6)).put hD hD6
        · rw [ht, List.filter_append, List.map_append, List.filter_cons, if_pos hb]
          exact (ha.up (x5.trans g6.ff)).append (.cons x6 .nil)
        · cases hq : Φ a with
          | some q =>
            rw [xp a q hq] at h; cases h
            obtain ⟨b1, b2, vs, b3, b4, b5⟩ := fr5 a _ _ _ hq
            exact ⟨b1, b2, vs, g6.ff _ _ b3, b4, fun w hw => VT.up g6.ff xp _ _ (b5 w hw)⟩
          | none =>
            unfold joinR at h
            rw [hq] at h
            obtain ⟨b1, b2, vs, b3, b4, b5⟩ := frc a _ _ _ h
            exact ⟨b1, ((g2.trans g3).trans g5).hh.back b2, vs, b3, b4, fun w hw => VT.up (Ex.refl _) xc _ _ (b5 w hw)⟩
        · rcases List.mem_append.mp hw with hw | hw
          · exact VT.up (x5.trans g6.ff) xp _ _ (hvt w hw)
          · rw [List.mem_singleton.mp hw]; exact VT.up (Ex.refl _) xc _ _ vtc
      | false =>
        refine ⟨F5, acc, Φ, (g2.trans g3).trans g5, hD5, hH5, ?_, fr5, fun w hw => VT.up x5 (fun _ _ z => z) _ _ (hvt w hw)⟩
        rw [ht, List.filter_append, List.map_append, List.filter_cons, if_neg (by rw [hb]; decide)]
        show DqAll K F5 acc (_ ++ [])
        rw [List.append_nil]
        exact ha.up x5
  · have e : i = zs.length := by omega
    subst e
    rw [List.take_length] at ha
    have hx : Ex F' (upd F' D (.lst acc)) := Ex.new fd
    have hlen : acc.length ≤ nn := by
      rw [ha.length, List.length_map]
      exact Nat.le_trans (List.length_filter_le _ _) hnn
    have xr : ExR Φ (fun a => if a = D then some (0, nn, t) else Φ a) := fun a z hz => by
      have : a ≠ D := fun q => by
        subst q
        obtain ⟨_, _, vs, b3, _⟩ := hfr a z.1 z.2.1 z.2.2 hz
        rw [fd] at b3; cases b3
      simp only [if_neg this]; exact hz
    refine .inl ⟨gv.stop _ F' H' (by rw [List.length_map]; exact Nat.le_refl _) g2.ff g2.fh, k (.ref D) (upd F' D (.lst acc)) H' (fun a => if a = D then some (0, nn, t) else Φ a) ⟨(g1.trans g2).ff.trans hx, (g1.trans g2).hh, g2.fh.at_ hd, fun a h0 h1 => ?_⟩ (fun a e n u h => ?_) (.lst upd_same (ha.up hx)) ⟨D, rfl, by simp⟩⟩
    · by_cases hq : a = D
      · subst hq; exact absurd (g1.hh.back hD) h1
      · rw [upd_ne hq]; exact (g1.trans g2).old a h0 h1
    · by_cases hq : a = D
      · subst hq
        simp only [if_true] at h
        cases h
        exact ⟨rfl, g1.hh.back hD, acc, upd_same, hlen, fun w hw => VT.up hx xr _ _ (hvt w hw)⟩
      · simp only [if_neg hq] at h
        obtain ⟨b1, b2, vs, b3, b4, b5⟩ := hfr a _ _ _ h
        exact ⟨b1, g1.hh.back b2, vs, hx _ _ b3, b4, fun w hw => VT.up hx xr _ _ (b5 w hw)⟩
theorem f_lcT {α β : Type} {zs : List α} {enc : α → PyData} {encB : β → PyData} {g : TG} {ix : List Nat} {f : α → List Sl → List Sl} {tb : α → Bool} {y : α → β} {own : List (Str × Nat)} {tg iter elt : Expr} {ifs : List Expr} {scope : Scope} {nn : Nat}
    (hN : X.N.Nodup) (hi : PI X tg iter (tI X.K env (zs.map enc))) (hl : zs.length ≤ 1000000) (hnn : zs.length ≤ nn) (okb : blkC X.N X.env.scope scope own = true) (hg : Blk X scope fun X' => PG X' tg g)
    (hf : ∀ z ∈ zs, Asg X.K g (enc z) (f z) ix) (hix : ∀ i ∈ ix, i ∈ own.map (·.2))
    (ht : ∀ z ∈ zs, Blk X scope fun X' => PTs X' ifs (tT X.K (f z (wipeE env (own.map (·.2)))) (tb z)))
    (he : ∀ z ∈ zs, tb z = true → Blk X scope fun X' => PE X' elt (tF X.K t (f z (wipeE env (own.map (·.2)))) (encB (y z))))
    (hc : X.calm = true := by rfl) (hs : ∀ x, foldedSetIterable iter X.env x = pure x := by intro _; rfl) : PE X (.ListComp elt [⟨tg, iter, ifs, 0⟩] scope pos) (tF X.K (.L nn t) env (eL encB ((zs.filter tb).map y))) := by
  have h : PE X (.ListComp elt [⟨tg, iter, ifs, 0⟩] scope pos) (tF X.K (.L nn t) env (.list ((zs.filter tb).map fun z => encB (y z)))) :=
    pmono (pe_lc (te := fun σ H Q => ∃ z, (z ∈ zs ∧ tb z = true) ∧ tF X.K t (f z (wipeE env (own.map (·.2)))) (encB (y z)) σ H Q) (tt := fun σ H Q => ∃ z, (z ∈ zs) ∧ tT X.K (f z (wipeE env (own.map (·.2)))) (tb z) σ H Q) hc hN hi (blkOk_by okb) hg
      (fun s H C cl fp => ⟨fun pins s1 σ H Q I ⟨z, hz, q⟩ => (ht z hz s _ C cl fp).run pins s1 σ H Q I q⟩) (fun s H C cl fp => ⟨fun pins s1 σ H Q I ⟨z, hz, q⟩ => (he z hz.1 hz.2 s _ C cl fp).run pins s1 σ H Q I q⟩) hs) fun σ H Q h => lc_readF hl hnn hf hix h
  rwa [show (fun z => encB (y z)) = encB ∘ y from rfl, ← List.map_map] at h
theorem f_lcTA {α β : Type} {zs : List α} {enc : α → PyData} {encB : β → PyData} {g : TG} {ix : List Nat} {f : α → List Sl → List Sl} {y : α → β} {own : List (Str × Nat)} {tg iter elt : Expr} {scope : Scope} {nn : Nat}
    (hN : X.N.Nodup) (hi : PI X tg iter (tI X.K env (zs.map enc))) (hl : zs.length ≤ 1000000) (hnn : zs.length ≤ nn) (okb : blkC X.N X.env.scope scope own = true) (hg : Blk X scope fun X' => PG X' tg g)
    (hf : ∀ z ∈ zs, Asg X.K g (enc z) (f z) ix) (hix : ∀ i ∈ ix, i ∈ own.map (·.2))
    (he : ∀ z ∈ zs, Blk X scope fun X' => PE X' elt (tF X.K t (f z (wipeE env (own.map (·.2)))) (encB (y z))))
    (hc : X.calm = true := by rfl) (hs : ∀ x, foldedSetIterable iter X.env x = pure x := by intro _; rfl) : PE X (.ListComp elt [⟨tg, iter, [], 0⟩] scope pos) (tF X.K (.L nn t) env (eL encB (zs.map y))) := by
  have h := f_lcT (pos := pos) (tb := fun _ => true) hN hi hl hnn okb hg hf hix (fun z _ s H C cl fp => ts_nil) (fun z hz _ => he z hz) hc hs
  rwa [map_filter_true] at h
theorem c_eqGs {α : Type} [DecidableEq α] {enc : α → PyData} {u v : α} {m m1 m2 : Bool} (q : EqOk enc) (hu : X.A.units + 64 < cLine) (ha : PE X a (tE X.K m1 env (enc u))) (hb : PE X b (tE X.K m2 env (enc v))) (s1 : SeqAt.shaped (enc u) = true) (s2 : SeqAt.shaped (enc v) = true) : (PE X (.Compare a [.Eq] [b] pos) (tE X.K m env (.bool (decide (u = v))))) ∧ PT X (.Compare a [.Eq] [b] pos) (tT X.K env (decide (u = v))) := by
  have h := c_eqD (pos := pos) (m := m) hu ha hb s1 s2
  rwa [q.eq] at h
theorem c_neGs {α : Type} [DecidableEq α] {enc : α → PyData} {u v : α} {m m1 m2 : Bool} (q : EqOk enc) (hu : X.A.units + 64 < cLine) (ha : PE X a (tE X.K m1 env (enc u))) (hb : PE X b (tE X.K m2 env (enc v))) (s1 : SeqAt.shaped (enc u) = true) (s2 : SeqAt.shaped (enc v) = true) : (PE X (.Compare a [.NotEq] [b] pos) (tE X.K m env (.bool (!decide (u = v))))) ∧ PT X (.Compare a [.NotEq] [b] pos) (tT X.K env (!decide (u = v))) := by
  have h := c_neD (pos := pos) (m := m) hu ha hb s1 s2
  rwa [q.eq] at h
/-- an own list is read as data, for a scalar -/
theorem e_frz1 {m : Bool} (i : Nat) (ho : env[i]? = some (.own ds)) (hs : scalD d = true) (h : PE X e (tE K true (env.set i (.dat (.list ds))) d)) : PE X e (tE K m env d) := pmono h fun σ H Q ⟨F0, H0, F, ok, q⟩ => by
  obtain ⟨F', _, _, ok'⟩ := ok.freeze ho
  exact ⟨F0, H0, F', ok', fun v F1 H1 g x => q v F H1 (Grow.junk ok.g.fh g.hh) (Dq.scal (show Dq K F1 v d from x) hs)⟩
end
end D3
namespace D3
open PySem PySem.Spec L2 PyProof.Rows

/-! ### tables: a new list of new lists -/
def tTab (K : KF) (m : Nat) (env : List Sl) (dss : List (List PyData)) : TE := fun σ H Q => ∃ F0 H0 F, Ok K F0 H0 env σ F H ∧ ∀ D vs F' H', Grow F H F' H' → H D = none → F' D = none → H' D = some (.lst vs) → NewTab K H F' H' m D vs dss → Q (.ref D) H'
section
variable {X : Cx} {K : KF} {e a b b1 b2 e1 e2 iter : Expr} {es : List Expr} {env env' : List Sl} {d d1 d2 : PyData} {ds rs : List PyData} {pos p1 p2 p3 p4 p : Pos} {t t1 t2 : Ty} {E : DE} {body rest sts : List Stmt} {k n c : Nat} {x y : Str}
theorem lc_readT {α : Type} {zs : List α} {enc : α → PyData} {g : TG} {ix : List Nat} {f : α → List Sl → List Sl} {y : α → List PyData} {own : List Nat} {m : Nat} (hl : zs.length ≤ 1000000) (hm : ∀ z ∈ zs, (y z).length ≤ m)
    (hf : ∀ z ∈ zs, Asg K g (enc z) (f z) ix) (hix : ∀ i ∈ ix, i ∈ own) {σ : St} {H : Hp} {Q : VK} (h : tTab K m env (zs.map y) σ H Q) :
    tLc (tI K env (zs.map enc)) g (fun σ H Q => ∃ z, (z ∈ zs) ∧ tT K (f z (wipeE env own)) true σ H Q) (fun σ H Q => ∃ z, (z ∈ zs) ∧ tO K (f z (wipeE env own)) (y z) σ H Q) own σ H Q := by
  obtain ⟨F0, H0, F, ok, k⟩ := h
  refine ⟨F0, H0, F, ok, fun J F1 H1 g1 gv D hD => ?_⟩
  have ok1 := ok.grow g1
  refine ⟨fun i n H' => i ≤ zs.length ∧ n = zs.length - i ∧ ∃ F' acc, Grow F1 H1 F' H' ∧ F' D = none ∧ H' D = some (.lst acc) ∧ NewTab K H1 F' H' m D acc ((zs.take i).map y),
    ⟨zs.length, Nat.zero_le _, rfl, F1, [], Grow.own g1.fh hD, g1.fh.back hD, upd_same, List.nodup_nil, rfl, fun k ds hk => by simp at hk⟩, ?_⟩
  rintro i n H' ⟨hi, rfl, F', acc, g2, fd, hd, hnd, hlen, hat⟩
  by_cases hlt : i < zs.length
  · have hz : zs[i]? = some zs[i] := List.getElem?_eq_getElem hlt
    have hmem : zs[i] ∈ zs := List.getElem_mem hlt
    refine .inr ⟨gv.go i F' H' (by rw [List.length_map]; exact hlt) g2.ff g2.fh, fun H2 => ∃ F2 acc, Grow F1 H1 F2 H2 ∧ F2 D = none ∧ H2 D = some (.lst acc) ∧ NewTab K H1 F2 H2 m D acc ((zs.take (i + 1)).map y), fun H2 ⟨F2, acc2, q⟩ => ⟨zs.length - (i + 1), by omega, hlt, rfl, F2, acc2, q⟩, fun x H3 hy => ?_⟩
    obtain ⟨F3, g3, x3⟩ := gv.yld i (enc zs[i]) F' H' x H3 (by rw [List.getElem?_map, hz]; rfl) g2.ff g2.fh hy
    have ok3 : Ok K F0 H0 (wipeE env own) (wipe σ own) F3 H3 := (ok1.grow (g2.trans g3)).wiped own
    have hD3 : F3 D = none := g3.old D fd (by rw [hd]; simp)
    have hH3 : H3 D = some (.lst acc) := g3.hh _ _ hd
    refine hf zs[i] hmem F0 H0 F3 H3 _ _ x _ ok3 x3 fun σ4 ok4 w4 => ⟨?_, zs[i], hmem, F0, H0, F3, ok4, fun F5 H5 g5 => ?_⟩
    · rw [w4 own hix]
      exact wipe_wipe own own fun _ h => h
    · have hD5 : F5 D = none := g5.old D hD3 (by rw [hH3]; simp)
      have hH5 : H5 D = some (.lst acc) := g5.hh _ _ hH3
      have ht : (zs.take (i + 1)) = zs.take i ++ [zs[i]] := by rw [List.take_add_one, hz]; rfl
      have g35 := g3.trans g5
      show ∃ z, _
      refine ⟨zs[i], hmem, F0, H0, F5, ok4.grow g5, fun p ws F6 H6 g6 hp hp6 hw hds => ?_⟩
      have g36 := g35.trans g6
      have hpD : p ≠ D := fun z => by rw [z, hH5] at hp; cases hp
      have hD6 : F6 D = none := g6.old D hD5 (by rw [hH5]; simp)
      have hli : acc.length = i := by rw [hlen, List.length_map, List.length_take]; omega
      refine ⟨acc, g6.hh _ _ hH5, ?_, F6, acc ++ [.ref p], (g2.trans g36).put hD hD6, hD6, upd_same, ?_, ?_, fun k ds hk => ?_⟩
      · have h3 : sizeLine = 16777216 := sizeLine_eq
        omega
      · refine List.nodup_append.mpr ⟨hnd, by simp, fun u hu w hw => ?_⟩
        rw [List.mem_singleton.mp hw]
        obtain ⟨k, hk⟩ := List.getElem?_of_mem hu
        have hkl : k < ((zs.take i).map y).length := by rw [← hlen]; exact (List.getElem?_eq_some_iff.mp hk).1
        obtain ⟨q, us, a1, a2, a3, a4, a5, _⟩ := hat k _ (List.getElem?_eq_getElem hkl)
        rw [hk] at a1; cases a1
        intro z
        cases z
        rw [g35.hh _ _ a5] at hp; cases hp
      · rw [ht, List.map_append, List.length_append, List.length_append, hlen]; rfl
      · rw [ht, List.map_append] at hk
        by_cases hkl : k < ((zs.take i).map y).length
        · rw [List.getElem?_append_left hkl] at hk
          obtain ⟨q, us, a1, a2, a3, a4, a5, a6, a7⟩ := hat k ds hk
          exact ⟨q, us, by rw [List.getElem?_append_left (by rw [hlen]; exact hkl)]; exact a1, a2, a3, g36.old q a4 (by rw [a5]; simp), by rw [upd_ne a2]; exact g36.hh _ _ a5, a6, a7.up g36.ff⟩
        · have hkl2 : k = ((zs.take i).map y).length := by
            have := (List.getElem?_eq_some_iff.mp hk).1
            rw [List.length_append] at this
            simp at this
            simp at hkl ⊢
            omega
          rw [List.getElem?_append_right (by omega), hkl2, Nat.sub_self] at hk
          have hk : some (y zs[i]) = some ds := hk
          cases hk
          refine ⟨p, ws, ?_, hpD, ?_, hp6, by rw [upd_ne hpD]; exact hw, by rw [hds.length]; exact hm _ hmem, hds⟩
          · rw [List.getElem?_append_right (by rw [hlen]; omega), hlen, hkl2, Nat.sub_self]; rfl
          · exact (g2.trans g35).hh.back hp
  · have e : i = zs.length := by omega
    subst e
    rw [List.take_length] at hlen hat
    exact .inl ⟨gv.stop _ F' H' (by rw [List.length_map]; exact Nat.le_refl _) g2.ff g2.fh, k D acc F' H' (g1.trans g2) (g1.hh.back hD) fd hd ⟨hnd, hlen, fun k ds hk => by
      obtain ⟨q, us, a1, a2, a3, a4⟩ := hat k ds hk
      exact ⟨q, us, a1, a2, g1.hh.back a3, a4⟩⟩⟩
open Classical in
theorem Ok.newTab {F0 H0 F H F1 H1 : Hp} {σ : St} {D : Addr} {vs : List V} {dss : List (List PyData)} {ep nn m i : Nat} (ok : Ok K F0 H0 env σ F H) (hpin : Pin env c) (hep : ep ≠ 0) (g : Grow F H F1 H1) (hD : H D = none) (hF : F1 D = none) (hh : H1 D = some (.lst vs)) (hn : NewTab K H F1 H1 m D vs dss) (hnn : dss.length ≤ nn) : Ok K F0 H0 (env.set i (.tab ep c nn m dss)) (σ.set i (some (.ref D))) F1 H1 := by
  obtain ⟨Φ, mm⟩ := ok.pin hpin
  obtain ⟨h1, h2, h3⟩ := hn
  have items : ∀ p, V.ref p ∈ vs → p ≠ D ∧ H p = none ∧ F1 p = none ∧ ∃ ws, H1 p = some (.lst ws) ∧ ws.length ≤ m := fun p hp => by
    obtain ⟨k, hk⟩ := List.getElem?_of_mem hp
    have hkl : k < dss.length := by rw [← h2]; exact (List.getElem?_eq_some_iff.mp hk).1
    obtain ⟨q, ws, a1, a2, a3, a4, a5, a6, _⟩ := h3 k _ (List.getElem?_eq_getElem hkl)
    rw [hk] at a1; cases a1
    exact ⟨a2, a3, a4, ws, a5, a6⟩
  have allref : ∀ w ∈ vs, ∃ p, w = .ref p := fun w hw => by
    obtain ⟨k, hk⟩ := List.getElem?_of_mem hw
    have hkl : k < dss.length := by rw [← h2]; exact (List.getElem?_eq_some_iff.mp hk).1
    obtain ⟨q, ws, a1, _⟩ := h3 k _ (List.getElem?_eq_getElem hkl)
    rw [hk] at a1; cases a1
    exact ⟨q, rfl⟩
  let Φ2 : Reg := fun a => match Φ a with
    | some q => some q
    | none => if a = D then some (ep, nn, .L m .any) else if V.ref a ∈ vs then some (ep, m, .any) else none
  have eD : Φ2 D = some (ep, nn, .L m .any) := by
    show (match Φ D with | some q => some q | none => if D = D then some (ep, nn, Ty.L m .any) else if V.ref D ∈ vs then some (ep, m, .any) else none) = _
    rw [mm.free hD]; simp
  have eI : ∀ p, V.ref p ∈ vs → Φ2 p = some (ep, m, .any) := fun p hp => by
    obtain ⟨b1, b2, _⟩ := items p hp
    show (match Φ p with | some q => some q | none => if p = D then some (ep, nn, Ty.L m .any) else if V.ref p ∈ vs then some (ep, m, .any) else none) = _
    rw [mm.free b2]; simp [b1, hp]
  have m2 : Mes K H0 env σ F1 H1 Φ2 c := mm.growR g ok.g.fh ok.g.hh (fun a q h => by
    show (match Φ a with | some q => some q | none => if a = D then some (ep, nn, Ty.L m .any) else if V.ref a ∈ vs then some (ep, m, .any) else none) = _
    rw [h]) fun a e' n' u hu hn => by
    by_cases ha : a = D
    · rw [ha, eD] at hu
      cases hu
      rw [ha]
      refine ⟨hD, fun z => absurd z hep, fun _ => hF, vs, hh, by rw [h2]; omega, fun w hw => ?_⟩
      obtain ⟨p, rfl⟩ := allref w hw
      exact ⟨p, rfl, eI p hw⟩
    · by_cases hv : V.ref a ∈ vs
      · rw [eI a hv] at hu
        cases hu
        obtain ⟨b1, b2, b3, ws, b4, b5⟩ := items a hv
        exact ⟨b2, fun z => absurd z hep, fun _ => b3, ws, b4, by show ws.length ≤ m + c; omega, fun _ _ => trivial⟩
      · have : Φ2 a = none := by
          show (match Φ a with | some q => some q | none => if a = D then some (ep, nn, Ty.L m .any) else if V.ref a ∈ vs then some (ep, m, .any) else none) = _
          rw [hn]; simp [ha, hv]
        rw [this] at hu; cases hu
  have o1 := ok.grow g
  by_cases hiσ : i < σ.length
  · refine o1.setT trivial ⟨Φ2, c, ?_⟩
    have key : ∀ j q, OwnS (env.set i (.tab ep c nn m dss)) (σ.set i (some (.ref D))) j q → i ≠ j ∧ OwnS env σ j q := fun j q ⟨h1, h2⟩ => by
      have hne : i ≠ j := fun z => by
        subst z
        rcases h2 with ⟨ds, h2⟩ | ⟨t, ds, h2⟩
        · rcases get_set_cases h2 with ⟨_, _, q⟩ | ⟨q, _⟩
          · cases q
          · exact q rfl
        · rcases get_set_cases h2 with ⟨_, _, q⟩ | ⟨q, _⟩
          · cases q
          · exact q rfl
      rw [List.getElem?_set_ne hne] at h1 h2
      exact ⟨hne, h1, h2⟩
    refine ⟨m2.reg, fun j q h => m2.own j q (key j q h).2, fun j k q h1 h2 => m2.sep j k q (key j q h1).2 (key k q h2).2, fun j e c' t d h => ?_, fun j a ws e c' n t h => ?_, fun j t ds h => ?_, fun j e c' n m' dss' h => ?_, m2.tr.of (fun j v t h => ?_) (Ex.refl _) fun a z => ⟨z, fun _ y => y⟩⟩
    · rcases get_set_cases h with ⟨_, _, q⟩ | ⟨ne, q⟩
      · cases q
      · rw [List.getElem?_set_ne ne]; exact m2.mes j e c' t d q
    · rcases get_set_cases h with ⟨_, _, q⟩ | ⟨ne, q⟩
      · cases q
      · rw [List.getElem?_set_ne ne]; exact m2.itm j a ws e c' n t q
    · rcases get_set_cases h with ⟨_, _, q⟩ | ⟨ne, q⟩
      · cases q
      · rw [List.getElem?_set_ne ne]; exact m2.ownN j t ds q
    · rcases get_set_cases h with ⟨z0, _, q⟩ | ⟨ne, q⟩
      · subst z0
        cases q
        refine ⟨rfl, hep, D, vs, List.getElem?_set_self hiσ, eD, hh, h1, h2, fun k ds hk => ?_⟩
        obtain ⟨p, ws, a1, a2, a3, a4, a5, a6, a7⟩ := h3 k ds hk
        exact ⟨p, ws, a1, eI p (List.mem_of_getElem? a1), a5, a7⟩
      · rw [List.getElem?_set_ne ne]; exact m2.tab j e c' n m' dss' q
    · rcases get_set_cases h with ⟨_, _, q⟩ | ⟨ne, q⟩
      · cases q
      · exact ⟨q, List.getElem?_set_ne ne⟩
  · rw [set_big hiσ, set_big (by rw [← ok.len]; exact hiσ)]
    exact o1
/-- x = [e for ..]: each e a new list -/
theorem s_setTab {α β : Type} {zs : List α} {enc : α → PyData} {encB : β → PyData} {g : TG} {ix : List Nat} {f : α → List Sl → List Sl} {y : α → List β} {own : List (Str × Nat)} {tg iter elt : Expr} {scope : Scope} {xn : Str} {py spos : Pos} {nn m : Nat} (ep i : Nat)
    (hN : X.N.Nodup) (hxi : X.N[i]? = some xn) (hi : PI X tg iter (tI X.K env (zs.map enc))) (hl : zs.length ≤ 1000000) (hm : ∀ z ∈ zs, (y z).length ≤ m) (hnn : zs.length ≤ nn) (okb : blkC X.N X.env.scope scope own = true) (hg : Blk X scope fun X' => PG X' tg g)
    (hf : ∀ z ∈ zs, Asg X.K g (enc z) (f z) ix) (hix : ∀ i ∈ ix, i ∈ own.map (·.2))
    (he : ∀ z ∈ zs, Blk X scope fun X' => PE X' elt (tO X.K (f z (wipeE env (own.map (·.2)))) ((y z).map encB)))
    (hep : ep ≠ 0) (hpin : Pin env c) (h : E.nx (env.set i (.tab ep c nn m ((zs.map y).map (·.map encB)))))
    (hx : Loc X.env.scope xn := by first | exact .inl rfl | exact .inr rfl) (hsw : swapsWith (.ListComp elt [⟨tg, iter, [], 0⟩] scope pos) (some (.Name xn py)) spos.line X.env = pure false := by rfl) (hf2 : X.fn xn = true ∨ X.env.scope.names.lookup xn = some .local := by first | exact .inl rfl | exact .inr rfl)
    (hc : X.calm = true := by rfl) (hs : ∀ x, foldedSetIterable iter X.env x = pure x := by intro _; rfl) : PS X (.Assign [.Name xn py] (.ListComp elt [⟨tg, iter, [], 0⟩] scope pos) spos) (tS X.K env E) :=
  psmono (ps_set hN hxi hx (pe_lc (te := fun σ H Q => ∃ z, (z ∈ zs) ∧ tO X.K (f z (wipeE env (own.map (·.2)))) ((y z).map encB) σ H Q) (tt := fun σ H Q => ∃ z, (z ∈ zs) ∧ tT X.K (f z (wipeE env (own.map (·.2)))) true σ H Q) hc hN hi (blkOk_by okb) hg
    (fun s H C cl fp => ⟨fun pins s1 σ H Q I ⟨z, hz, q⟩ => ts_nil.run pins s1 σ H Q I q⟩) (fun s H C cl fp => ⟨fun pins s1 σ H Q I ⟨z, hz, q⟩ => (he z hz s _ C cl fp).run pins s1 σ H Q I q⟩) hs) hsw hf2) fun D σ H ⟨F0, H0, F, ok, n, _⟩ =>
      lc_readT (y := fun z => (y z).map encB) (m := m) hl (fun z hz => by rw [List.length_map]; exact hm z hz) hf hix ⟨F0, H0, F, ok, fun D vs F1 H1 g1 h1 h2 h3 h4 => n _ _ F1 H1 h (ok.newTab hpin hep g1 h1 h2 h3 (by rw [List.map_map]; exact h4) (by rw [List.length_map, List.length_map]; exact hnn))⟩
theorem s_setTabLc {α β : Type} {zs : List α} {enc : α → PyData} {encB : β → PyData} {g : TG} {ix : List Nat} {f : α → List Sl → List Sl} {y : α → List β} {own : List (Str × Nat)} {tg iter elt : Expr} {scope : Scope} {xn : Str} {py spos : Pos} {nn m : Nat} (ep i : Nat)
    (hN : X.N.Nodup) (hxi : X.N[i]? = some xn) (hi : PI X tg iter (tI X.K env (zs.map enc))) (hl : zs.length ≤ 1000000) (hm : ∀ z ∈ zs, (y z).length ≤ m) (hnn : zs.length ≤ nn) (okb : blkC X.N X.env.scope scope own = true) (hg : Blk X scope fun X' => PG X' tg g)
    (hf : ∀ z ∈ zs, Asg X.K g (enc z) (f z) ix) (hix : ∀ i ∈ ix, i ∈ own.map (·.2))
    (he : ∀ z ∈ zs, Blk X scope fun X' => PE X' elt (tO X.K (f z (wipeE env (own.map (·.2)))) ((y z).map encB)))
    (hep : ep ≠ 0) (hpin : Pin env c) (h : E.nx (env.set i (.tab ep c nn m ((zs.map y).map (·.map encB)))))
    (hsw : swapsWith (.ListComp elt [⟨tg, iter, [], 0⟩] scope pos) (some (.Name xn py)) spos.line X.env = pure true := by exact sw_true rfl rfl rfl (by decide +kernel)) (hyl : X.env.scope.names.lookup xn = some .local := by rfl)
    (hc : X.calm = true := by rfl) (hs : ∀ x, foldedSetIterable iter X.env x = pure x := by intro _; rfl) : PS X (.Assign [.Name xn py] (.ListComp elt [⟨tg, iter, [], 0⟩] scope pos) spos) (tS X.K env E) :=
  psmono (ps_setLc (te := fun σ H Q => ∃ z, (z ∈ zs) ∧ tO X.K (f z (wipeE env (own.map (·.2)))) ((y z).map encB) σ H Q) (tt := fun σ H Q => ∃ z, (z ∈ zs) ∧ tT X.K (f z (wipeE env (own.map (·.2)))) true σ H Q) hc hN hxi hyl hsw hi (blkOk_by okb) hg
    (fun s H C cl fp => ⟨fun pins s1 σ H Q I ⟨z, hz, q⟩ => ts_nil.run pins s1 σ H Q I q⟩) (fun s H C cl fp => ⟨fun pins s1 σ H Q I ⟨z, hz, q⟩ => (he z hz s _ C cl fp).run pins s1 σ H Q I q⟩) hs) fun D σ H ⟨F0, H0, F, ok, n, _⟩ =>
      lc_readT (y := fun z => (y z).map encB) (m := m) hl (fun z hz => by rw [List.length_map]; exact hm z hz) hf hix ⟨F0, H0, F, ok, fun D vs F1 H1 g1 h1 h2 h3 h4 => n _ _ F1 H1 h (ok.newTab hpin hep g1 h1 h2 h3 (by rw [List.map_map]; exact h4) (by rw [List.length_map, List.length_map]; exact hnn))⟩
end
end D3
namespace D3
open PySem PySem.Spec L2 PyProof.Rows
/-- no other slot has anything of that time -/
def tabFree (e : Nat) : Sl → Bool
  | .mes _ _ _ _ | .itm _ _ _ _ _ _ | .tr _ _ => false
  | .tab e' _ _ _ _ => !(e' == e)
  | _ => true
theorem nodup_inj {α : Type} : ∀ {l : List α} {i j : Nat} {x : α}, l.Nodup → l[i]? = some x → l[j]? = some x → i = j
  | [], i, j, x, _, h, _ => by simp at h
  | a :: l, 0, 0, x, _, _, _ => rfl
  | a :: l, 0, j + 1, x, hn, h1, h2 => by
    simp at h1; subst h1
    exact absurd (List.mem_of_getElem? (show l[j]? = some a by simpa using h2)) (List.nodup_cons.mp hn).1
  | a :: l, i + 1, 0, x, hn, h1, h2 => by
    simp at h2; subst h2
    exact absurd (List.mem_of_getElem? (show l[i]? = some a by simpa using h1)) (List.nodup_cons.mp hn).1
  | a :: l, i + 1, j + 1, x, hn, h1, h2 => by
    rw [nodup_inj (List.nodup_cons.mp hn).2 (show l[i]? = some x by simpa using h1) (show l[j]? = some x by simpa using h2)]
section
variable {X : Cx} {K : KF} {e a b b1 b2 e1 e2 iter : Expr} {es : List Expr} {env env' : List Sl} {d d1 d2 : PyData} {ds rs : List PyData} {pos p1 p2 p3 p4 p : Pos} {t t1 t2 : Ty} {E : DE} {body rest sts : List Stmt} {k n c m : Nat} {x y : Str}
theorem free_get {ep i j : Nat} {s : Sl} (h : (env.set i .no).all (tabFree ep) = true) (hj : env[j]? = some s) (hne : i ≠ j) : tabFree ep s = true :=
  List.all_eq_true.mp h s (List.mem_of_getElem? (by rw [List.getElem?_set_ne hne]; exact hj))
theorem tab_ix {F H : Hp} {Φ : Reg} {ep : Nat} {vs : List V} {dss : List (List PyData)} {j : Int} (h : TabAt K F H Φ ep m vs dss) (hj : 0 ≤ j ∧ j < (dss.length : Int)) : ∃ p ws, L2.atI vs j = some (.ref p) ∧ vs[j.toNat]? = some (.ref p) ∧ Φ p = some (ep, m, .any) ∧ H p = some (.lst ws) ∧ DqAll K F ws (dss.getD j.toNat []) := by
  obtain ⟨h1, h2, h3⟩ := h
  have hl : j.toNat < dss.length := by omega
  obtain ⟨p, ws, a1, a2, a3, a4⟩ := h3 j.toNat _ (List.getElem?_eq_getElem hl)
  refine ⟨p, ws, ?_, a1, a2, a3, by rw [List.getD_eq_getElem?_getD, List.getElem?_eq_getElem hl]; exact a4⟩
  unfold L2.atI ixN
  rw [if_pos hj.1, if_pos (by rw [h2]; exact hj.2)]
  exact a1
/-- an element of an element of a table -/
theorem e_tabIx2 {α : Type} {enc : α → PyData} {zss : List (List α)} {dflt : α} {ep nn : Nat} {j1 j2 : Int} {mm : Bool} (i : Nat) (hi : X.N[i]? = some x) (hv : Vis X.env.scope x) (ho : env[i]? = some (.tab ep c nn m (zss.map (·.map enc)))) (hb1 : PE X b1 (tE X.K true env (.int j1))) (hb2 : PE X b2 (tE X.K true env (.int j2)))
    (hj1 : 0 ≤ j1 ∧ j1 < (zss.length : Int)) (hj2 : 0 ≤ j2 ∧ j2 < ((zss.getD j1.toNat []).length : Int)) (hs1 : PlainIx b1 := by exact fun _ _ => rfl) (hs2 : PlainIx b2 := by exact fun _ _ => rfl) (hd : (x == ("__debug__" : Str)) = false := by decide) (hcd : (x == ("__classdict__" : Str)) = false := by decide) :
    PE X (.Subscript (.Subscript (.Name x p1) b1 p2) b2 pos) (tE X.K mm env (enc ((zss.getD j1.toNat []).getD j2.toNat dflt))) :=
  pmono (pe_ix ix_list (pe_ix ix_list (pe_var hi hv hd hcd) hb1 hs1) hb2 hs2) fun σ H Q ⟨F0, H0, F, ok, q⟩ => by
    obtain ⟨Φ, c0, mo⟩ := ok.tre
    obtain ⟨_, _, qq, vs, h1, h2, h3, h4⟩ := mo.tab i _ _ _ _ _ ho
    obtain ⟨p, ws, a1, _, a2, a3, a4⟩ := tab_ix h4 (j := j1) (by rw [List.length_map]; exact hj1)
    have hds : ((zss.map (·.map enc)).getD j1.toNat []) = (zss.getD j1.toNat []).map enc := by
      rw [List.getD_eq_getElem?_getD, List.getD_eq_getElem?_getD, List.getElem?_map]
      cases zss[j1.toNat]? <;> rfl
    rw [hds] at a4
    have hl : j2.toNat < (zss.getD j1.toNat []).length := by omega
    obtain ⟨v, b1', b2'⟩ := a4.get (i := j2.toNat) (by rw [List.getElem?_map, List.getElem?_eq_getElem hl]; rfl)
    have hg : (zss.getD j1.toNat []).getD j2.toNat dflt = (zss.getD j1.toNat [])[j2.toNat] := by rw [List.getD_eq_getElem?_getD, List.getElem?_eq_getElem hl]; rfl
    rw [hg] at q
    refine ⟨.ref qq, h1, F0, H0, F, ok, fun w F1 H1 g1 x1 => ?_⟩
    cases (show Dq X.K F1 w (.int j1) from x1)
    refine ⟨qq, vs, j1, .ref p, rfl, rfl, sqOf (g1.hh _ _ h3), a1, F0, H0, F1, ok.grow g1, fun w F2 H2 g2 x2 => ?_⟩
    cases (show Dq X.K F2 w (.int j2) from x2)
    have hwl : ws.length = (zss.getD j1.toNat []).length := by rw [a4.length, List.length_map]
    refine ⟨p, ws, j2, v, rfl, rfl, sqOf (g2.hh _ _ (g1.hh _ _ a3)), ?_, q v F2 H2 (g1.trans g2) (seldn g2.fh (b2'.up (g1.ff.trans g2.ff)))⟩
    show L2.atI ws j2 = _
    unfold L2.atI ixN
    rw [if_pos hj2.1, if_pos (by rw [hwl]; exact hj2.2)]
    exact b1'
/-- an element of an element of a table changes -/
theorem s_setIx2 {α : Type} {enc : α → PyData} {zss : List (List α)} {z : α} {ep nn : Nat} {j1 j2 : Int} (i : Nat) (hi : X.N[i]? = some x) (hv : Vis X.env.scope x) (ho : env[i]? = some (.tab ep c nn m (zss.map (·.map enc)))) (he : PE X e (tE X.K true env (enc z))) (hb1 : PE X b1 (tE X.K true env (.int j1))) (hb2 : PE X b2 (tE X.K true env (.int j2)))
    (hj1 : 0 ≤ j1 ∧ j1 < (zss.length : Int)) (hj2 : 0 ≤ j2 ∧ j2 < ((zss.getD j1.toNat []).length : Int)) (hfree : (env.set i .no).all (tabFree ep) = true) (h : E.nx (env.set i (.tab ep c nn m ((zss.set j1.toNat ((zss.getD j1.toNat []).set j2.toNat z)).map (·.map enc)))))
    (hs1 : PlainIx b1 := by exact fun _ _ => rfl) (hd : (x == ("__debug__" : Str)) = false := by decide) (hcd : (x == ("__classdict__" : Str)) = false := by decide)
    (ha : ∀ v, assign (.Subscript (.Subscript (.Name x p1) b1 p2) b2 p3) X.env v = (do
      let ov ← holding [v] (eval (.Subscript (.Name x p1) b1 p2) X.env)
      let iv ← holding [v, ov] (eval b2 X.env)
      standAt p3
      holding [v, ov, iv] (setItem ov iv v)
      release [v, ov, iv] []) := by intro _; rfl)
    (hs : swapsWithSole [.Subscript (.Subscript (.Name x p1) b1 p2) b2 p3] e pos.line X.env = pure false := by rfl) (hw : swappedStores [.Subscript (.Subscript (.Name x p1) b1 p2) b2 p3] e X.env = pure none := by rfl) : PS X (.Assign [.Subscript (.Subscript (.Name x p1) b1 p2) b2 p3] e pos) (tS X.K env E) :=
  psmono (ps_asg he (pg_sub (pe_ix ix_list (pe_var hi hv hd hcd) hb1 hs1) hb2 set_list ha) hs hw) fun D σ H ⟨F0, H0, F, ok, nx, _⟩ => ⟨F0, H0, F, ok, fun v F1 H1 g1 x1 => by
    obtain ⟨Φ, c0, mo⟩ := ok.tre
    obtain ⟨hc, hep, qq, vs, h1, h2, h3, h4⟩ := mo.tab i _ _ _ _ _ ho
    subst hc
    obtain ⟨p, ws, a1, ai, a2, a3, a4⟩ := tab_ix h4 (j := j1) (by rw [List.length_map]; exact hj1)
    have hds : ((zss.map (·.map enc)).getD j1.toNat []) = (zss.getD j1.toNat []).map enc := by
      rw [List.getD_eq_getElem?_getD, List.getD_eq_getElem?_getD, List.getElem?_map]
      cases zss[j1.toNat]? <;> rfl
    rw [hds] at a4
    have hwl : ws.length = (zss.getD j1.toNat []).length := by rw [a4.length, List.length_map]
    refine ⟨.ref qq, h1, F0, H0, F1, ok.grow g1, fun w F2 H2 g2 x2 => ?_⟩
    cases (show Dq X.K F2 w (.int j1) from x2)
    refine ⟨qq, vs, j1, .ref p, rfl, rfl, sqOf (g2.hh _ _ (g1.hh _ _ h3)), a1, F0, H0, F2, (ok.grow g1).grow g2, fun w F3 H3 g3 x3 => ?_⟩
    cases (show Dq X.K F3 w (.int j2) from x3)
    have g23 := g2.trans g3
    have g := g1.trans g23
    have o3 := ((ok.grow g1).grow g2).grow g3
    have m3 := mo.grow g ok.g.fh ok.g.hh
    obtain ⟨r1, _, r3, us, r4, r5, _⟩ := m3.reg p _ _ _ a2
    have hp3 : H3 p = some (.lst ws) := g.hh _ _ a3
    rw [hp3] at r4; cases r4
    have nown : ∀ j q, OwnS env σ j q → q ≠ p := fun j q hq z => by
      have := (mo.own j q hq).1
      rw [z, a2] at this; cases this
    have ownk : ∀ {zz : List (List PyData)} j q, OwnS (env.set i (.tab ep c nn m zz)) σ j q → OwnS env σ j q := fun {zz} j q ⟨q1, q2⟩ => by
      refine ⟨q1, ?_⟩
      rcases q2 with ⟨ds, q2⟩ | ⟨t, ds, q2⟩
      · rcases get_set_cases q2 with ⟨_, _, q⟩ | ⟨_, q⟩
        · cases q
        · exact .inl ⟨ds, q⟩
      · rcases get_set_cases q2 with ⟨_, _, q⟩ | ⟨_, q⟩
        · cases q
        · exact .inr ⟨t, ds, q⟩
    have hz : DqAll X.K F3 (ws.set j2.toNat v) (((zss.getD j1.toNat []).set j2.toNat z).map enc) := by
      rw [List.map_set]
      exact DqAll.set (x1.up g23.ff) j2.toNat (a4.up g.ff)
    refine ⟨p, ws, j2, j2.toNat, rfl, rfl, hp3, ?_, nx _ _ F3 _ h (o3.putT (r3 hep) r1 hp3 (fun j es hj z => ?_) (fun j s hj => ?_) (by rw [List.length_set]) ⟨Φ, c, fun a e n t hq => ?_, fun j q hq => ?_, fun j k q q1 q2 => mo.sep j k q (ownk j q q1) (ownk k q q2), fun j e c' t d hj => ?_, fun j a vs e c' n t hj => ?_, fun j t ds hj => ?_, fun j e c' n m' dss hj => ?_, TrF.none fun j v t hj => by
      rcases get_set_cases hj with ⟨_, _, q⟩ | ⟨ne, q⟩
      · cases q
      · have := free_get hfree q ne; cases this⟩)⟩
    · unfold ixN; rw [if_pos hj2.1, if_pos (by rw [hwl]; exact hj2.2)]
    · exact nown j p (ownk j p ⟨z, .inl ⟨es, hj⟩⟩) rfl
    · rcases get_set_cases hj with ⟨_, _, q⟩ | ⟨_, q⟩
      · subst q; exact .inl trivial
      · exact .inr (.inr q)
    · obtain ⟨s1, s2, s3, us, s4, s5, s6⟩ := m3.reg a e n t hq
      by_cases hap : a = p
      · subst hap
        rw [a2] at hq; cases hq
        exact ⟨s1, s2, s3, ws.set j2.toNat v, upd_same, by rw [List.length_set]; exact r5, fun _ _ => trivial⟩
      · exact ⟨s1, s2, s3, us, by rw [upd_ne hap]; exact s4, s5, s6⟩
    · obtain ⟨s1, s2, s3, us, s4⟩ := m3.own j q (ownk j q hq)
      exact ⟨s1, s2, s3, us, by rw [upd_ne (nown j q (ownk j q hq))]; exact s4⟩
    · rcases get_set_cases hj with ⟨_, _, q⟩ | ⟨ne, q⟩
      · cases q
      · have := free_get hfree q ne; cases this
    · rcases get_set_cases hj with ⟨_, _, q⟩ | ⟨ne, q⟩
      · cases q
      · have := free_get hfree q ne; cases this
    · rcases get_set_cases hj with ⟨_, _, q⟩ | ⟨ne, q⟩
      · cases q
      · obtain ⟨p', us, s1, s2, s3, s4⟩ := m3.ownN j t ds q
        exact ⟨p', us, s1, by rw [upd_ne (nown j p' ⟨s1, .inr ⟨t, ds, q⟩⟩)]; exact s2, s3, s4⟩
    · rcases get_set_cases hj with ⟨z0, _, q⟩ | ⟨ne, q⟩
      · subst z0
        cases q
        have hqp : qq ≠ p := fun z => by rw [z, a2] at h2; cases h2
        obtain ⟨n1, n2, n3⟩ := h4
        refine ⟨rfl, hep, qq, vs, h1, h2, by rw [upd_ne hqp]; exact g.hh _ _ h3, n1, by rw [n2]; simp, fun k ds hk => ?_⟩
        rw [List.map_set] at hk
        by_cases hkj : j1.toNat = k
        · subst hkj
          rw [List.getElem?_set_self (by rw [List.length_map]; omega)] at hk
          cases hk
          exact ⟨p, ws.set j2.toNat v, ai, a2, upd_same, hz⟩
        · rw [List.getElem?_set_ne hkj] at hk
          obtain ⟨p', us, t1, t2, t3, t4⟩ := n3 k ds hk
          have hpp : p' ≠ p := fun y => by
            subst y
            exact hkj (nodup_inj n1 ai t1)
          exact ⟨p', us, t1, t2, by rw [upd_ne hpp]; exact g.hh _ _ t3, t4.up g.ff⟩
      · have hfr := free_get hfree q ne
        obtain ⟨s1, s0, q', vs', s2, s3, s4, s5⟩ := m3.tab j _ _ _ _ _ q
        have hee : e ≠ ep := fun y => by subst y; simp [tabFree] at hfr
        have nq : ∀ a n t, Φ a = some (e, n, t) → a ≠ p := fun a n t z y => by
          rw [y, a2] at z; cases z; exact hee rfl
        exact ⟨s1, s0, q', vs', s2, s3, by rw [upd_ne (nq _ _ _ s3)]; exact s4, s5.up (Ex.refl _) (fun _ z => z) (fun p ws z z2 => by rw [upd_ne (nq _ _ _ z)]; exact z2)⟩⟩
/-- a scalar that is read off trees and tables -/
theorem e_softS {mm : Bool} (he : env.map softS = env') (hs : scalD d = true) (h : PE X e (tE K true env' d)) : PE X e (tE K mm env d) := pmono h fun σ H Q ⟨F0, H0, F, ok, q⟩ => by
  obtain ⟨Φ, c, m⟩ := ok.tre
  obtain ⟨F', ok', _⟩ := ok.soft m
  exact ⟨F0, H0, F', he ▸ ok', fun v F1 H1 g x => q v F H1 (Grow.junk ok.g.fh g.hh) (Dq.scal (show Dq K F1 v d from x) hs)⟩
/-- a table whose lists change no more: a list that this slot alone knows, of data -/
theorem Ok.tabOwn {F0 H0 F H : Hp} {σ : St} {dss : List (List PyData)} {ep nn i : Nat} (ok : Ok K F0 H0 env σ F H) (ho : env[i]? = some (.tab ep c nn m dss)) (hfree : (env.set i .no).all (tabFree ep) = true) : ∃ F', Ok K F0 H0 (env.set i (.own (dss.map .list))) σ F' H := by
  obtain ⟨Φ, c0, mo⟩ := ok.tre
  obtain ⟨hc, hep, q, vs, h1, h2, h3, h4⟩ := mo.tab i _ _ _ _ _ ho
  subst hc
  let F' : Hp := fun a => match Φ a with
    | some (e, _, _) => if e = ep ∧ a ≠ q then H a else F a
    | none => F a
  let Φ' : Reg := fun a => match Φ a with
    | some (e, n, t) => if e = ep then none else some (e, n, t)
    | none => none
  have fN : ∀ a, Φ a = none → F' a = F a := fun a h => by
    show (match Φ a with | some (e, _, _) => if e = ep ∧ a ≠ q then H a else F a | none => F a) = _
    rw [h]
  have fE : ∀ a n t, Φ a = some (ep, n, t) → a ≠ q → F' a = H a := fun a n t h hn => by
    show (match Φ a with | some (e, _, _) => if e = ep ∧ a ≠ q then H a else F a | none => F a) = _
    rw [h]; simp [hn]
  have fO : ∀ a e n t, Φ a = some (e, n, t) → e ≠ ep → F' a = F a := fun a e n t h hn => by
    show (match Φ a with | some (e, _, _) => if e = ep ∧ a ≠ q then H a else F a | none => F a) = _
    rw [h]; simp [hn]
  have fQ : F' q = none := by
    show (match Φ q with | some (e, _, _) => if e = ep ∧ q ≠ q then H q else F q | none => F q) = _
    rw [h2]
    simp
    exact (mo.reg q _ _ _ h2).2.2.1 hep
  have pO : ∀ a e n t, Φ a = some (e, n, t) → e ≠ ep → Φ' a = some (e, n, t) := fun a e n t h hn => by
    show (match Φ a with | some (e, n, t) => if e = ep then none else some (e, n, t) | none => none) = _
    rw [h]; simp [hn]
  have pG : ∀ a e n t, Φ' a = some (e, n, t) → Φ a = some (e, n, t) ∧ e ≠ ep := fun a e n t h => by
    have h : (match Φ a with | some (e, n, t) => if e = ep then none else some (e, n, t) | none => none) = some (e, n, t) := h
    cases hq : Φ a with
    | none => rw [hq] at h; cases h
    | some z =>
      obtain ⟨e0, n0, t0⟩ := z
      rw [hq] at h
      simp only at h
      by_cases he : e0 = ep
      · rw [if_pos he] at h; cases h
      · rw [if_neg he] at h; cases h; exact ⟨rfl, he⟩
  have pN : ∀ a, Φ a = none → Φ' a = none := fun a h => by
    show (match Φ a with | some (e, n, t) => if e = ep then none else some (e, n, t) | none => none) = _
    rw [h]
  have pQ : Φ' q = none := by
    show (match Φ q with | some (e, n, t) => if e = ep then none else some (e, n, t) | none => none) = _
    rw [h2]; simp
  have xf : Ex F F' := fun a o h => by
    cases hq : Φ a with
    | none => rw [fN a hq]; exact h
    | some z =>
      obtain ⟨e0, n0, t0⟩ := z
      by_cases he : e0 = ep
      · subst he
        rw [(mo.reg a _ _ _ hq).2.2.1 hep] at h; cases h
      · rw [fO a _ _ _ hq he]; exact h
  have xh : Ex F' H := fun a o h => by
    cases hq : Φ a with
    | none => rw [fN a hq] at h; exact ok.g.fh _ _ h
    | some z =>
      obtain ⟨e0, n0, t0⟩ := z
      by_cases he : e0 = ep
      · subst he
        by_cases haq : a = q
        · rw [haq, fQ] at h; cases h
        · rw [fE a _ _ hq haq] at h; exact h
      · rw [fO a _ _ _ hq he] at h; exact ok.g.fh _ _ h
  have vUp : ∀ e, e ≠ ep → ∀ t v, VT K F Φ e t v → VT K F' Φ' e t v := fun e he => VT.upE (fun a vs z => ex_t xf z) fun a n t z => pO a e n t z he
  have keyO : ∀ j p, OwnS (env.set i (.own (dss.map .list))) σ j p → (j = i ∧ p = q) ∨ (i ≠ j ∧ OwnS env σ j p) := fun j p ⟨q1, q2⟩ => by
    by_cases e : i = j
    · subst e
      rw [h1] at q1; cases q1
      exact .inl ⟨rfl, rfl⟩
    · rw [List.getElem?_set_ne e] at q2
      exact .inr ⟨e, q1, q2⟩
  have hi : i < env.length := (List.getElem?_eq_some_iff.mp ho).1
  have hds : DqAll K F' vs (dss.map .list) := by
    have build : ∀ (vs : List V) (dss : List (List PyData)), vs.length = dss.length → (∀ (k : Nat) ds, dss[k]? = some ds → ∃ p ws, vs[k]? = some (.ref p) ∧ F' p = some (.lst ws) ∧ DqAll K F' ws ds) → DqAll K F' vs (dss.map .list) := by
      intro vs
      induction vs with
      | nil => intro dss hl _; cases dss with
        | nil => exact .nil
        | cons => cases hl
      | cons v vs ih => intro dss hl h; cases dss with
        | nil => cases hl
        | cons ds dss =>
          obtain ⟨p, ws, a1, a2, a3⟩ := h 0 ds rfl
          cases a1
          exact .cons (.lst a2 a3) (ih dss (by simpa using hl) fun k ds hk => by
            obtain ⟨p, ws, a1, a2⟩ := h (k + 1) ds (by simpa using hk)
            exact ⟨p, ws, by simpa using a1, a2⟩)
    refine build vs dss h4.2.1 fun k ds hk => ?_
    obtain ⟨p, ws, a1, a2, a3, a4⟩ := h4.2.2 k ds hk
    exact ⟨p, ws, a1, by rw [fE p _ _ a2 (fun z => by rw [z, h2] at a2; cases a2)]; exact a3, a4.up xf⟩
  have hH0 := (mo.reg q _ _ _ h2).1
  refine ⟨F', ⟨⟨ok.g.ff.trans xf, ok.g.hh, xh, fun a a0 a1 => ?_⟩, fun j d h => ?_, fun j d h => ?_, fun j k es fs p e1 e2 e3 e4 => ?_, fun j d h => ?_, fun j a dd d h => ?_, by rw [List.length_set, ok.len], Φ', c, fun a e n t h => ?_, fun j p h => ?_, fun j k p q1 q2 => ?_, fun j e c' t d h => ?_, fun j a vs e c' n t h => ?_, fun j t ds h => ?_, fun j e c' n m' dss' h => ?_, TrF.none fun j v t hj => by
      rcases get_set_cases hj with ⟨_, _, q⟩ | ⟨ne, q⟩
      · cases q
      · have := free_get hfree q ne; cases this⟩⟩
  · cases hq : Φ a with
    | none => rw [fN a hq]; exact ok.g.old a a0 a1
    | some z => exact absurd (mo.reg a z.1 z.2.1 z.2.2 hq).1 a1
  · rcases get_set_cases h with ⟨_, _, q⟩ | ⟨ne, q⟩
    · cases q
    · obtain ⟨w, b1, b2⟩ := ok.dat j d q
      exact ⟨w, b1, b2.up xf⟩
  · rcases get_set_cases h with ⟨z, _, q'⟩ | ⟨ne, q'⟩
    · subst z; cases q'
      exact ⟨q, vs, h1, fQ, hH0, h3, hds⟩
    · obtain ⟨p, ws, b1, b2, b3, b4, b5⟩ := ok.own j d q'
      exact ⟨p, ws, b1, by rw [fN p (mo.own j p ⟨b1, .inl ⟨_, q'⟩⟩).1]; exact b2, b3, b4, b5.up xf⟩
  · rcases keyO j p ⟨e3, .inl ⟨_, e1⟩⟩ with ⟨y1, y2⟩ | ⟨y1, y2⟩
    · rcases keyO k p ⟨e4, .inl ⟨_, e2⟩⟩ with ⟨z1, z2⟩ | ⟨z1, z2⟩
      · rw [y1, z1]
      · have := (mo.own k p z2).1
        rw [y2, h2] at this; cases this
    · rcases keyO k p ⟨e4, .inl ⟨_, e2⟩⟩ with ⟨z1, z2⟩ | ⟨z1, z2⟩
      · have := (mo.own j p y2).1
        rw [z2, h2] at this; cases this
      · exact mo.sep j k p y2 z2
  · rcases get_set_cases h with ⟨_, _, q⟩ | ⟨ne, q⟩
    · cases q
    · obtain ⟨w, b1, b2⟩ := ok.scr j d q
      exact ⟨w, b1, ex_l xf b2⟩
  · rcases get_set_cases h with ⟨_, _, q⟩ | ⟨ne, q⟩
    · cases q
    · obtain ⟨w, b1, b2, b3⟩ := ok.exc j a dd d q
      exact ⟨w, b1, b2, b3.up xf⟩
  · obtain ⟨h5, h6⟩ := pG a e n t h
    obtain ⟨b1, b2, b3, ws, b4, b5, b6⟩ := mo.reg a e n t h5
    exact ⟨b1, fun z => by obtain ⟨us, u1, u2⟩ := b2 z; exact ⟨us, xf _ _ u1, u2⟩, fun z => by rw [fO a _ _ _ h5 h6]; exact b3 z, ws, b4, b5, fun w hw => vUp e h6 _ _ (b6 w hw)⟩
  · rcases keyO j p h with ⟨y1, y2⟩ | ⟨y1, y2⟩
    · rw [y2]; exact ⟨pQ, fQ, hH0, vs, h3⟩
    · obtain ⟨b1, b2, b3, ws, b4⟩ := mo.own j p y2
      exact ⟨pN p b1, by rw [fN p b1]; exact b2, b3, ws, b4⟩
  · rcases keyO j p q1 with ⟨y1, y2⟩ | ⟨y1, y2⟩
    · rcases keyO k p q2 with ⟨z1, z2⟩ | ⟨z1, z2⟩
      · rw [y1, z1]
      · have := (mo.own k p z2).1
        rw [y2, h2] at this; cases this
    · rcases keyO k p q2 with ⟨z1, z2⟩ | ⟨z1, z2⟩
      · have := (mo.own j p y2).1
        rw [z2, h2] at this; cases this
      · exact mo.sep j k p y2 z2
  · rcases get_set_cases h with ⟨_, _, q⟩ | ⟨ne, q⟩
    · cases q
    · have := free_get hfree q ne; cases this
  · rcases get_set_cases h with ⟨_, _, q⟩ | ⟨ne, q⟩
    · cases q
    · have := free_get hfree q ne; cases this
  · rcases get_set_cases h with ⟨_, _, q⟩ | ⟨ne, q⟩
    · cases q
    · obtain ⟨p, ws, b1, b2, b3, b4⟩ := mo.ownN j t ds q
      exact ⟨p, ws, b1, b2, b3.up xf, fun w hw => vUp 0 (fun z => hep z.symm) _ _ (b4 w hw)⟩
  · rcases get_set_cases h with ⟨_, _, q⟩ | ⟨ne, q⟩
    · cases q
    · have hfr := free_get hfree q ne
      have hee : e ≠ ep := fun y => by subst y; simp [tabFree] at hfr
      obtain ⟨b1, b0, q', vs', b2, b3, b4, b5⟩ := mo.tab j _ _ _ _ _ q
      exact ⟨b1, b0, q', vs', b2, pO _ _ _ _ b3 hee, b4, b5.up xf (fun p z => pO _ _ _ _ z hee) (fun _ _ _ z => z)⟩
theorem s_tabOwn {α : Type} {enc : α → PyData} {zss : List (List α)} {ep nn : Nat} (i : Nat) (ho : env[i]? = some (.tab ep c nn m (zss.map (·.map enc)))) (hfree : (env.set i .no).all (tabFree ep) = true) (h : PSs X sts (tS K (env.set i (.own (zss.map (eL enc)))) E)) : PSs X sts (tS K env E) := pssmono h fun D σ H ⟨F0, H0, F, ok, r⟩ => by
  obtain ⟨F', ok'⟩ := ok.tabOwn ho hfree
  rw [List.map_map] at ok'
  exact ⟨F0, H0, F', ok', r⟩
end
end D3
namespace D3
open PySem PySem.Spec L2 PyProof.Rows
section
variable {X : Cx} {K : KF} {e e2 a b : Expr} {env : List Sl} {d : PyData} {pos p tpos : Pos}
theorem i_zip {α β : Type} {enc : α → PyData} {encB : β → PyData} {zs : List α} {ws : List β} {elts : List Expr} {kk : Nat} (hm : X.mg "zip" = none) (h : PE X e (tE X.K true env (eL enc zs))) (h2 : PE X e2 (tE X.K true env (eL encB ws))) (hg : Gl X "zip" := by rfl) (ns : NS X e := by exact fun _ => rfl) (ns2 : NS X e2 := by exact fun _ => rfl) :
    PI X (.Tuple elts kk tpos) (.Call (.Name "zip" p) [e, e2] [] pos) (tI X.K env ((zs.zip ws).map (eT2 enc encB))) :=
  pimono (pi_zip hg hm (pa_cons h (pa_cons h2 pa_nil (ns2 [])) (ns [e2])) (ns [e2]) (by rw [ns2 []]; rfl)) fun σ H R ⟨F0, H0, F, ok, k⟩ => ⟨F0, H0, F, ok, fun v F1 H1 g1 x => ⟨F0, H0, F1, ok.grow g1, fun w F2 H2 g2 y => by
    cases (show Dq X.K F1 v (.list (zs.map enc)) from x) with
    | @lst l1 vs _ a1 a2 =>
      cases (show Dq X.K F2 w (.list (ws.map encB)) from y) with
      | @lst l2 us _ b1 b2 =>
        have a1 := g2.ff _ _ a1
        have a2 := a2.up g2.ff
        have hl := a2.length
        have hl2 := b2.length
        rw [List.length_map] at hl hl2
        refine ⟨l1, l2, vs, us, rfl, sqOf (g2.fh _ _ a1), sqOf (g2.fh _ _ b1), k _ F2 H2 (g1.trans g2) ⟨fun i F' H' hi e1 e2 => ?_, fun i F' H' hi e1 e2 => ⟨vs, us, sqOf (e2 _ _ (e1 _ _ a1)), sqOf (e2 _ _ (e1 _ _ b1)), ?_⟩, fun i d F' H' x H'' hd e1 e2 hy => ?_⟩⟩
        · rw [List.length_map, List.length_zip] at hi
          exact ⟨vs, us, vs[i], us[i], sqOf (e2 _ _ (e1 _ _ a1)), sqOf (e2 _ _ (e1 _ _ b1)), List.getElem?_eq_getElem (by omega), List.getElem?_eq_getElem (by omega)⟩
        · rw [List.length_map, List.length_zip] at hi
          omega
        · obtain ⟨T, y1, y2, rfl, hT, rfl, hy1, hy2⟩ := hy
          have hx1 := hy1 vs (sqOf (e2 _ _ (e1 _ _ a1)))
          have hx2 := hy2 us (sqOf (e2 _ _ (e1 _ _ b1)))
          obtain ⟨d1, q1, q2⟩ := a2.getV hx1
          obtain ⟨d2, r1, r2⟩ := b2.getV hx2
          have hd' : d = .tuple [d1, d2] := by
            rw [List.getElem?_map] at q1 r1 hd
            cases hz : zs[i]? with
            | none => rw [hz] at q1; cases q1
            | some z =>
              cases hw : ws[i]? with
              | none => rw [hw] at r1; cases r1
              | some w =>
                have : (zs.zip ws)[i]? = some (z, w) := List.getElem?_zip_eq_some.mpr ⟨hz, hw⟩
                rw [hz] at q1
                rw [hw] at r1
                rw [this] at hd
                simp at q1 r1 hd
                rw [← hd, ← q1, ← r1]
          subst hd'
          exact ⟨_, Grow.new e2 hT, .tup (.inl (.inl upd_same)) (.cons ((q2.up e1).up (Ex.new (e2.back hT))) (.cons ((r2.up e1).up (Ex.new (e2.back hT))) .nil))⟩⟩⟩
end
end D3
namespace D3
open PySem PySem.Spec L2 PyProof.Rows

/-! ### tuples of ints at names of the module -/
def intV : List Value → List Int → Bool
  | [], [] => true
  | .int i _ :: vs, j :: js => decide (i = j) && intV vs js
  | _, _ => false
theorem intV_ok : ∀ {vs : List Value} {js : List Int}, intV vs js = true → Vals (js.map V.int) vs
  | [], [], _ => .nil
  | [], _ :: _, h => by cases h
  | v :: vs, [], h => by cases v <;> cases h
  | v :: vs, j :: js, h => by
    cases v with
    | int i t =>
      have h : (decide (i = j) && intV vs js) = true := h
      rw [Bool.and_eq_true] at h
      have e := of_decide_eq_true h.1
      subst e
      exact .cons ⟨t, rfl⟩ (intV_ok h.2)
    | _ => cases h
def tupB (K : KF) (t : Str × List Int) : Bool := decide (PySem.W.nsIn K mainGlobals t.1 = some (some (.ref (He.ga K t.1)))) && (match K.lookup (He.ga K t.1) with
  | some ⟨.type "tuple", _, .seq its _, _⟩ => intV its.toList t.2 && decide (its.size ≤ 1000)
  | _ => false)
/-- x is a tuple of the ints js -/
def GTup (K : KF) (mg : Str → Option Value) (x : Str) (js : List Int) : Prop := ∃ a, mg x = some (.ref a) ∧ ∀ F, SqT K F a (js.map V.int)
theorem tupB_ok {K : KF} {h : Heap} {mg : Str → Option Value} {t : Str × List Int} (X : K.In h) (G : h.Ns mainGlobals mg) (c : tupB K t = true) : GTup K mg t.1 t.2 := by
  unfold tupB at c
  rw [Bool.and_eq_true] at c
  obtain ⟨c1, c2⟩ := c
  refine ⟨He.ga K t.1, PySem.W.mg_of X G (of_decide_eq_true c1), fun F => .inr ?_⟩
  split at c2
  · rename_i dd its n sl ho
    rw [Bool.and_eq_true] at c2
    exact ⟨_, its, n, ho, rfl, rfl, Nat.le_trans (of_decide_eq_true c2.2) (by rw [sizeLine_eq]; decide), intV_ok c2.1⟩
  · cases c2
section
variable {X : Cx} {m : Bool} {env : List Sl} {pos : Pos} {x : Str}
theorem e_globT {js : List Int} (h : GTup X.K X.mg x js) (hg : Gl X x := by rfl) (hd : (x == ("__debug__" : Str)) = false := by decide) : PE X (.Name x pos) (tE X.K m env (.tuple (js.map .int))) := by
  obtain ⟨a, h1, h2⟩ := h
  exact e_const (pe_glob (v := .ref a) hg h1 rfl hd) fun H => .tup (h2 H) (DqAll.ofInts js)
end
/-! the Hook with them -/
abbrev AlT : Type := AlM × Bool
def asT (g : Addr → Option Obj) (n : Nat) (ts : List (Str × List Int)) : List Addr := asM g n ++ ts.map fun t => He.ga (He.frG g (asM g n)) t.1
def obsT (fa : List He.Fa) (fn : List He.DefD) (P : Program) (xs : List Str) (ts : List (Str × List Int)) (K : KF) : AlT := (obsM fa fn P xs K, ts.all (tupB K))
def valT (fn : List He.DefD) (z : Nat → Pos) : AlT := (valM fn z, true)
def SaysT (fa : List He.Fa) (fn : List He.DefD) (P : Program) (xs : List Str) (ts : List (Str × List Int)) (z : Nat → Pos) (K : KF) : Prop := obsT fa fn P xs ts K = valT fn z
def obsTG (n : Nat) (fa : List He.Fa) (fn : List He.DefD) (P : Program) (xs : List Str) (ts : List (Str × List Int)) (g : Addr → Option Obj) : AlT := obsT fa fn P xs ts (He.frG g (asT g n ts))
def hookT (n : Nat) (fa : List He.Fa) (fn : List He.DefD) (P : Program) (xs : List Str) (ts : List (Str × List Int)) (z : Nat → Pos) : PySem.W.Hook where
  α := AlT
  obs := fun s => obsTG n fa fn P xs ts s.heap.get?
  val := fun _ => valT fn z
  says := fun _ h => ∃ K : KF, K.In h ∧ SaysT fa fn P xs ts z K
  of := fun _ _ e => ⟨_, He.frG_in, e⟩
  keeps := fun _ _ _ ⟨K, hK, c⟩ k => ⟨K, PySem.W.Frag.In.keeps hK k, c⟩
theorem obsTG_eq {n : Nat} {fa : List He.Fa} {fn : List He.DefD} {P : Program} {xs : List Str} {ts : List (Str × List Int)} {z : Nat → Pos} {g : Addr → Option Obj} {s : Shared} (h : ∀ a, g a = s.heap.get? a) : obsTG n fa fn P xs ts g = (hookT n fa fn P xs ts z).obs s := by
  have e : g = s.heap.get? := funext h
  rw [e] <;> rfl
end D3
namespace D3
open PySem PySem.Spec L2 PyProof.Rows
variable {α β : Type} {enc : α → PyData} {encB : β → PyData}
theorem soft_tab {zss : List (List α)} {e c n m : Nat} : softS (.tab e c n m (zss.map (·.map enc))) = .dat (eL (eL enc) zss) := by
  show Sl.dat (.list (List.map PyData.list (zss.map (·.map enc)))) = Sl.dat (.list (zss.map fun x => .list (x.map enc)))
  rw [List.map_map]; rfl
theorem set_self {l : List Sl} {i : Nat} {s t : Sl} (h : l[i]? = some s) (e : softS s = t) : l.map softS = (l.map softS).set i t := by
  apply List.ext_getElem?
  intro j
  rw [List.getElem?_set]
  by_cases hj : i = j
  · subst hj
    have hl : i < l.length := (List.getElem?_eq_some_iff.mp h).1
    rw [if_pos rfl, List.length_map, if_pos hl, List.getElem?_map, h, ← e]; rfl
  · rw [if_neg hj]
section
variable {X : Cx} {K : KF} {env : List Sl} {e : Expr} {q : Bool} {ep ep' c c' nn nn' m m' : Nat} {zss : List (List α)} {yss : List (List β)}
theorem t_softT (i : Nat) (ho : env[i]? = some (.tab ep c nn m (zss.map (·.map enc)))) (h : PT X e (tT K ((env.map softS).set i (.dat (eL (eL enc) zss))) q)) : PT X e (tT K env q) :=
  t_soft (set_self ho soft_tab) h
theorem t_softT2 (i j : Nat) (ho : env[i]? = some (.tab ep c nn m (zss.map (·.map enc)))) (ho2 : env[j]? = some (.tab ep' c' nn' m' (yss.map (·.map encB)))) (h : PT X e (tT K (((env.map softS).set i (.dat (eL (eL enc) zss))).set j (.dat (eL (eL encB) yss))) q)) : PT X e (tT K env q) :=
  t_soft (by rw [← set_self ho soft_tab]; exact set_self ho2 soft_tab) h
theorem e_softT {mm : Bool} {d : PyData} (i : Nat) (ho : env[i]? = some (.tab ep c nn m (zss.map (·.map enc)))) (hs : scalD d = true) (h : PE X e (tE K true ((env.map softS).set i (.dat (eL (eL enc) zss))) d)) : PE X e (tE K mm env d) :=
  e_softS (set_self ho soft_tab) hs h
theorem e_softT2 {mm : Bool} {d : PyData} (i j : Nat) (ho : env[i]? = some (.tab ep c nn m (zss.map (·.map enc)))) (ho2 : env[j]? = some (.tab ep' c' nn' m' (yss.map (·.map encB)))) (hs : scalD d = true) (h : PE X e (tE K true (((env.map softS).set i (.dat (eL (eL enc) zss))).set j (.dat (eL (eL encB) yss))) d)) : PE X e (tE K mm env d) :=
  e_softS (by rw [← set_self ho soft_tab]; exact set_self ho2 soft_tab) hs h
end
end D3
namespace D3
open PySem PySem.Spec L2 PyProof.Rows
section
variable {X : Cx} {K : KF} {env : List Sl} {st : Stmt} {rest : List Stmt} {E : DE}
/-- the branches of a statement meet again: what is behind is proved once, for any x with P x -/
theorem s_join {α : Type} (U : α → List (Nat × Sl)) (P : α → Prop) (h1 : PS X st (tS K env (E.to fun e => ∃ x, P x ∧ LeE e (setAll env (U x))))) (h2 : ∀ x, P x → PSs X rest (tS K (setAll env (U x)) E)) : PSs X (st :: rest) (tS K env E) :=
  s_cons h1 fun e ⟨x, hP, hle⟩ => s_le hle (h2 x hP)
end
end D3
namespace D3
open PySem PySem.Spec L2 PyProof.Rows
/-! ### range(i, j) as integers -/
def rngZ (i j : Int) : List Int := (List.range (j - i).toNat).map fun (k : Nat) => i + (k : Int)
section
variable {X : Cx} {K : KF} {e a b c b1 b2 : Expr} {es : List Expr} {m : Bool} {env : List Sl} {d : PyData} {ds : List PyData} {pos p p1 p2 p3 p4 p5 p6 : Pos} {E : DE} {st : Stmt} {rest : List Stmt} {x y : Str} {i j : Int}
theorem i_rngZ {tg : Expr} (hm : X.mg "range" = none) (ha : PE X a (tE X.K true env (.int i))) (hb : PE X b (tE X.K true env (.int j))) (hj : -(2 ^ 62) ≤ i ∧ i < 2 ^ 62 ∧ -(2 ^ 62) ≤ j ∧ j < 2 ^ 62) (hg : Gl X "range" := by rfl) (na : NS X a := by exact fun _ => rfl) (nb : NS X b := by exact fun _ => rfl) :
    PI X tg (.Call (.Name "range" p1) [a, b] [] pos) (tI X.K env ((rngZ i j).map PyData.int)) := by
  have h := i_rngN2 (tg := tg) (p1 := p1) (pos := pos) hm ha hb hj hg na nb
  unfold rngZ
  rw [List.map_map]
  exact h
section
variable {X : Cx} {K : KF} {e a b c : Expr} {m m1 m2 : Bool} {env : List Sl} {d : PyData} {ds : List PyData} {pos p1 p2 p3 : Pos}
theorem c_notInI {i : Int} {xs : List Int} {m m1 m2 : Bool} (hu : X.A.units + 65 < cLine) (ha : PE X a (tE X.K m1 env (.int i))) (hb : PE X b (tE X.K m2 env (eL .int xs))) (hm : behindInMarks .NotIn b = false := by rfl) : (PE X (.Compare a [.NotIn] [b] pos) (tE X.K m env (.bool (!decide (i ∈ xs))))) ∧ PT X (.Compare a [.NotIn] [b] pos) (tT X.K env (!decide (i ∈ xs))) :=
  cmpE (op_notInD hu) ha hb hm fun x y H Q hx hy q => by
    refine ⟨.int i, xs.map .int, Dq.dp _ _ hx, Dq.dp _ _ hy, rfl, shaped_ints xs, ?_⟩
    have : ((xs.map PyData.int).any fun z => PyData.eqv z (.int i)) = decide (i ∈ xs) := by
      clear hy hb q
      induction xs with
      | nil => rfl
      | cons z zs ih =>
        rw [List.map_cons, List.any_cons, ih, eqv_int]
        by_cases h : i = z <;> by_cases h2 : i ∈ zs <;> simp [h, h2]
    rw [this]; exact q
theorem c_isNoneM (ha : PE X a (tE K m1 env d)) {k : Nat} : (PE X (.Compare a [.Is] [.Constant .none k p1] pos) (tE K m env (.bool (noneB d)))) ∧ PT X (.Compare a [.Is] [.Constant .none k p1] pos) (tT K env (noneB d)) :=
  cmpE op_isN ha (e_non (m := true) (env := env)) (nomark _) fun x y H Q hx hy q => by
    cases hy
    refine ⟨rfl, ?_⟩
    cases hx <;> exact q
theorem s_eqO {α : Type} {enc : α → PyData} {zs zs' : List α} {sts : List Stmt} {E : DE} (i : Nat) (ho : env[i]? = some (.own (zs.map enc))) (h : zs = zs') (k : PSs X sts (tS K (env.set i (.own (zs'.map enc))) E)) : PSs X sts (tS K env E) := by
  subst h
  have e : env.set i (.own (zs.map enc)) = env := by
    obtain ⟨h1, h2⟩ := List.getElem?_eq_some_iff.mp ho
    rw [← h2, List.set_getElem_self]
  rw [e] at k
  exact k
/-- l[-1] -/
theorem e_ixLast {α : Type} {enc : α → PyData} {zs : List α} (z0 : α) (h : PE X a (tL X.K env (zs.map enc))) (hb : PE X b (tE X.K true env (.int (-1)))) (hi : zs ≠ []) (hs : PlainIx b := by exact fun _ _ => rfl) : PE X (.Subscript a b pos) (tE X.K m env (enc (zs.getLastD z0))) :=
  e_ix h hb (atI_map (enc := enc) (atI_neg1 hi)) hs
end
/-! ### l[i], l[j] = x, y -/
theorem swap_read {α : Type} {enc : α → PyData} {zs : List α} {z1 z2 : α} {j1 j2 : Int} {F0 H0 F H : Hp} {σ : St} {i : Nat} (ok : Ok K F0 H0 env σ F H) (ho : env[i]? = some (.own (zs.map enc))) {v : V} (hv : Dq K F v (.tuple [enc z1, enc z2]))
    (h1 : 0 ≤ j1 ∧ j1 < zs.length) (h2 : 0 ≤ j2 ∧ j2 < zs.length) {Q : St → Hp → Prop}
    (q : ∀ F' H', Ok K F0 H0 (env.set i (.own (((zs.set j1.toNat z1).set j2.toNat z2).map enc))) σ F' H' → Q σ H') :
    gTup K 2 (gCons (gSub (tVar i) (tE K true env (.int j1)) L2.rSetL) (gCons (gSub (tVar i) (tE K true (env.set i (.own ((zs.set j1.toNat z1).map enc))) (.int j2)) L2.rSetL) gNil)) v σ H Q := by
  cases hv with
  | tup hs ha =>
    cases ha with
    | cons x1 ha =>
      cases ha with
      | cons x2 ha =>
        cases ha
        refine ⟨_, _, rfl, ex_t ok.g.fh hs, rfl, _, _, rfl, ?_⟩
        obtain ⟨p, vs, a1, a2, a3, a4, a5⟩ := ok.own i _ ho
        refine ⟨.ref p, a1, F0, H0, F, ok, fun w F2 H2 g2 y2 => ?_⟩
        cases y2
        have hl : vs.length = zs.length := by rw [a5.length, List.length_map]
        have ok2 := (ok.grow g2).put ho a1 (DqAll.set (x1.up g2.ff) j1.toNat (a5.up g2.ff))
        rw [setMap] at ok2
        have hi : i < env.length := (List.getElem?_eq_some_iff.mp ho).1
        have ho2 : (env.set i (Sl.own ((zs.set j1.toNat z1).map enc)))[i]? = some (.own ((zs.set j1.toNat z1).map enc)) := by rw [List.getElem?_set_self hi]
        refine ⟨p, vs, j1, j1.toNat, rfl, rfl, g2.hh _ _ a4, by unfold ixN; rw [if_pos h1.1, if_pos (by rw [hl]; exact h1.2)], _, _, rfl, ?_⟩
        refine ⟨.ref p, a1, F0, H0, F2, ok2, fun w F3 H3 g3 y3 => ?_⟩
        cases y3
        obtain ⟨p', vs', b1, b2, b3, b4, b5⟩ := ok2.own i _ ho2
        rw [a1] at b1; cases b1
        have hl' : vs'.length = zs.length := by rw [b5.length, List.length_map, List.length_set]
        have ok3 := (ok2.grow g3).put ho2 a1 (DqAll.set ((x2.up g2.ff).up g3.ff) j2.toNat (b5.up g3.ff))
        rw [setMap, List.set_set] at ok3
        exact ⟨p, vs', j2, j2.toNat, rfl, rfl, g3.hh _ _ b4, by unfold ixN; rw [if_pos h2.1, if_pos (by rw [hl']; exact h2.2)], rfl, q _ _ ok3⟩
theorem s_swap {α : Type} {enc : α → PyData} {zs : List α} {z1 z2 : α} {j1 j2 : Int} {kt : Nat} (i : Nat) (ho : env[i]? = some (.own (zs.map enc))) (he : PE X e (tE X.K true env (eT2 enc enc (z1, z2))))
    (h1 : 0 ≤ j1 ∧ j1 < zs.length) (h2 : 0 ≤ j2 ∧ j2 < zs.length) (hg : PG X (.Tuple [.Subscript (.Name x p1) b1 p2, .Subscript (.Name x p3) b2 p4] kt p5) (gTup X.K 2 (gCons (gSub (tVar i) (tE X.K true env (.int j1)) L2.rSetL) (gCons (gSub (tVar i) (tE X.K true (env.set i (.own ((zs.set j1.toNat z1).map enc))) (.int j2)) L2.rSetL) gNil))))
    (h : E.nx (env.set i (.own (((zs.set j1.toNat z1).set j2.toNat z2).map enc))))
    (hi : X.N[i]? = some x := by rfl) (hv : Vis X.env.scope x := by first | exact .inl rfl | exact .inr (.inl rfl) | exact .inr (.inr rfl)) (hd : (x == ("__debug__" : Str)) = false := by decide) (hcd : (x == ("__classdict__" : Str)) = false := by decide) (hc : X.calm = true := by rfl)
    (hs : swapsWithSole [.Tuple [.Subscript (.Name x p1) b1 p2, .Subscript (.Name x p3) b2 p4] kt p5] e pos.line X.env = pure false := by rfl) (hw : swappedStores [.Tuple [.Subscript (.Name x p1) b1 p2, .Subscript (.Name x p3) b2 p4] kt p5] e X.env = pure none := by rfl) :
    PS X (.Assign [.Tuple [.Subscript (.Name x p1) b1 p2, .Subscript (.Name x p3) b2 p4] kt p5] e pos) (tS X.K env E) :=
  psmono (ps_asg he hg hs hw) fun D σ H ⟨F0, H0, F, ok, n, _⟩ => ⟨F0, H0, F, ok, fun v F1 H1 g1 x1 => swap_read (ok.grow g1) ho x1 h1 h2 fun F' H' ok' => n _ _ F' H' h ok'⟩
end
/-! ### defs that change a list of the caller -/
def less (H : Hp) (p : Addr) : Hp := fun a => if a = p then none else H a
theorem less_ex {H : Hp} {p : Addr} : Ex (less H p) H := fun a o h => by
  unfold less at h
  split at h
  · cases h
  · exact h
theorem less_ne {H : Hp} {p a : Addr} (h : a ≠ p) : less H p a = H a := by unfold less; rw [if_neg h]
theorem less_eq {H : Hp} {p : Addr} : less H p p = none := by unfold less; rw [if_pos rfl]
theorem less_none {H : Hp} {p a : Addr} (h : H a = none) : less H p a = none := by
  unfold less
  split
  · rfl
  · exact h
theorem Mes.less {K : KF} {H0 F H : Hp} {env : List Sl} {σ : St} {Φ : Reg} {c : Nat} {p : Addr} (m : Mes K H0 env σ F H Φ c) : Mes K (less H0 p) env σ F H Φ c :=
  ⟨fun a e n t h => by
    obtain ⟨h1, h2⟩ := m.reg a e n t h
    exact ⟨less_none h1, h2⟩, fun i q h => by
    obtain ⟨h1, h2, h3, h4⟩ := m.own i q h
    exact ⟨h1, h2, less_none h3, h4⟩, m.sep, m.mes, m.itm, m.ownN, m.tab, m.tr⟩
theorem ok_startM {K : KF} {F H : Hp} {p : Addr} {ws us : List V} {ds ds1 : List PyData} (N : List Str) (hN : 0 < N.length) (e : Ex F H) (hf : F p = none) (hh : H p = some (.lst ws)) (hd : DqAll K F ws ds) (h : DqAll K F us ds1) :
    Ok K F (less H p) (.own ds :: env0 (N.length - 1) ds1) (L2.start N (.ref p :: us)) F H := by
  have o1 := ok_start (K := K) N e (DqAll.cons .non h : DqAll K F (.non :: us) (.none :: ds1))
  have o2 := o1.setNo (i := 0) (x := some (.ref p))
  have e1 : (env0 N.length (.none :: ds1)).set 0 .no = .no :: env0 (N.length - 1) ds1 := by
    unfold env0
    simp only [List.map_cons, List.cons_append, List.set_cons_zero, List.length_cons]
    rw [show N.length - (ds1.length + 1) = N.length - 1 - ds1.length from by omega]
  have e2 : (L2.start N (.non :: us)).set 0 (some (.ref p)) = L2.start N (.ref p :: us) := by
    unfold L2.start
    simp only [List.map_cons, List.cons_append, List.set_cons_zero, List.length_cons]
  rw [e1, e2] at o2
  have noown : ∀ (j : Nat) (s : Sl), (Sl.no :: env0 (N.length - 1) ds1)[j]? = some s → plainS s := fun j s hs => by
    cases j with
    | zero => cases hs; trivial
    | succ j =>
      rw [List.getElem?_cons_succ] at hs
      have hm := List.mem_of_getElem? hs
      unfold env0 at hm
      rcases List.mem_append.mp hm with z | z
      · obtain ⟨d, _, rfl⟩ := List.mem_map.mp z; trivial
      · rw [(List.mem_replicate.mp z).2]; trivial
  obtain ⟨Φ, c, m⟩ := o2.tre
  have hΦ : Φ p = none := by
    cases q : Φ p with
    | none => rfl
    | some z =>
      have := (m.reg p z.1 z.2.1 z.2.2 q).1
      rw [hh] at this; cases this
  have o3 : Ok K F (less H p) (.no :: env0 (N.length - 1) ds1) (L2.start N (.ref p :: us)) F H :=
    ⟨⟨o2.g.ff, less_ex, o2.g.fh, fun a h0 _ => h0⟩, o2.dat, fun i es z => absurd (noown i _ z) (fun w => w), o2.sep, o2.scr, o2.exc, o2.len, Φ, c, m.less⟩
  have hσ : 0 < (L2.start N (.ref p :: us)).length := by rw [o3.len]; simp
  have hs0 : (L2.start N (.ref p :: us)).set 0 (some (.ref p)) = L2.start N (.ref p :: us) := by
    unfold L2.start
    simp only [List.map_cons, List.cons_append, List.set_cons_zero]
  have m2 := m.less (p := p).newOwn (i := 0) (s := .own ds) (p := p) (vs := ws) hσ hΦ (fun j w => by
    obtain ⟨_, ⟨es, w⟩ | ⟨t, es, w⟩⟩ := w
    · exact noown j _ w
    · exact noown j _ w) hf less_eq hh (.inl ⟨ds, rfl⟩)
  have o4 := o3.setOwn_ (i := 0) (p := p) hf less_eq hh hd (fun j es w => absurd (noown j _ w) (fun w => w)) ⟨Φ, c, m2⟩
  rw [hs0] at o4
  exact o4
/-- a def whose first argument is a list that it changes: R old others answer new -/
def spM (K : KF) (n : Nat) (R : List PyData → List PyData → PyData → List PyData → Prop) : Sp := fun vs H Q _ => ∃ F p us ws ds ds1 d es, vs = V.ref p :: us ∧ Ex F H ∧ F p = none ∧ H p = some (.lst ws) ∧ DqAll K F ws ds ∧ DqAll K F us ds1 ∧ ds1.length + 1 = n ∧ R ds ds1 d es ∧
  ∀ v F' H' vs', Grow F (less H p) F' H' → Dq K F' v d → H' p = some (.lst vs') → F' p = none → DqAll K F' vs' es → Q v H'
def RtP (p : Addr) (K : KF) (F0 H0 : Hp) (r : RS) (Q : VK) : Prop := match r with
  | .own (d :: es) => ∀ v F' H' vs, Grow F0 H0 F' H' → Dq K F' v d → H' p = some (.lst vs) → F' p = none → DqAll K F' vs es → Q v H'
  | _ => True
/-- the first slot holds the list p -/
abbrev At0 (p : Addr) (σ : St) : Prop := σ[0]? = some (some (V.ref p))
def tP (p : Addr) (K : KF) (env : List Sl) (E : DE) : TS := fun D σ H => At0 p σ ∧ ∃ F0 H0 F, Ok K F0 H0 env σ F H ∧ (∀ env' σ' F' H', E.nx env' → At0 p σ' → Ok K F0 H0 env' σ' F' H' → D.nx σ' H') ∧
  (∀ env' σ' F' H', E.bk env' → At0 p σ' → Ok K F0 H0 env' σ' F' H' → D.bk σ' H') ∧ (∀ env' σ' F' H', E.ct env' → At0 p σ' → Ok K F0 H0 env' σ' F' H' → D.ct σ' H') ∧ ∀ r, E.rt r → RtP p K F0 H0 r D.rt
section
variable {P : Program} {w : World} {K : KF} {mg : Str → Option Value} {base : Heap} {x qual : Str} {st : Stmt} {f : Addr} {fd : FuncData} {N ps : List Str} {k : Nat} {R : List PyData → List PyData → PyData → List PyData → Prop}
theorem def_okM (F : Fn K x qual st f fd) (S : FnScope N ps (defScope st)) (hps : 0 < N.length)
    (hb : ∀ (cdv : Value) (A : Around) (outer : List Env) (s : Shared) (H : Hp) (E : XK) (ds ds1 : List PyData) (d : PyData) (es : List PyData) (p : Addr), Room k (A.deeper (PyProof.Rows.envOfC qual (defScope st) s.heap.objs.size f cdv)) → ds1.length + 1 = ps.length → R ds ds1 d es →
      PSs (cx0 P w K mg base N qual st f cdv A outer s H E) (defBody st) (tP p K (.own ds :: env0 (N.length - 1) ds1) ⟨fun e => d = .none ∧ e[0]? = some (.own es), (· = .own (d :: es)), fun _ => False, fun _ => False⟩)) : FnOk P w K mg base CX0 (k + 1) f fd ps (spM K ps.length R) := by
  refine FunD.ok F S (fun vs H Q E ⟨F, p, us, ws, ds, ds1, d, es, ev, _, _, _, _, h, hl, _⟩ => by rw [ev, List.length_cons, h.length, hl]) (fun cdv A outer s H vs Q E hr ⟨F, p, us, ws, ds, ds1, d, es, ev, e, hf, hh, hd, h, hl, hR, hQ⟩ => ?_)
  subst ev
  refine ⟨_, PSs.nox (hb cdv A outer s H E ds ds1 d es p hr hl hR), ?_, F, less H p, F, ok_startM N hps e hf hh hd h, fun env' σ' F' H' hn a0 ok' => ?_, fun _ _ _ _ z => z.elim, fun _ _ _ _ z => z.elim, fun r' hr' => ?_⟩
  · unfold L2.start; rfl
  · obtain ⟨hn1, hn2⟩ := hn
    subst hn1
    obtain ⟨q, vs, a1, a2, a3, a4, a5⟩ := ok'.own 0 es hn2
    rw [a0] at a1; cases a1
    exact hQ .non F' H' vs ok'.g .non a4 a2 a5
  · subst hr'
    exact hQ
end
section
variable {X : Cx} {K : KF} {e e2 a b c : Expr} {es : List Expr} {env env' : List Sl} {d : PyData} {ds rs ds1 : List PyData} {pos p p1 p2 q : Pos} {E : DE} {body rest t1 t2 : List Stmt} {x y : Str} {k n : Nat}
theorem Ok.mut {F0 H0 F H F' H' : Hp} {σ : St} {i : Nat} {a : Addr} {vs : List V} (ok : Ok K F0 H0 env σ F H) (ho : env[i]? = some (.own ds)) (hs : σ[i]? = some (some (.ref a))) (g : Grow F (less H a) F' H') (h1 : H' a = some (.lst vs)) (h2 : F' a = none) (h3 : DqAll K F' vs rs) : Ok K F0 H0 (env.set i (.own rs)) σ F' H' := by
  have o1 := ok.put ho hs (vs := []) (es := []) .nil
  have gr : Grow F (upd H a (.lst [])) F' (upd H' a (.lst [])) := by
    refine ⟨g.ff, fun b o hb => ?_, fun b o hb => ?_, fun b h0 hb => ?_⟩
    · by_cases z : b = a
      · subst z; rw [upd_same] at hb ⊢; exact hb
      · rw [upd_ne z] at hb ⊢
        exact g.hh b o (by rw [less_ne z]; exact hb)
    · by_cases z : b = a
      · subst z; rw [h2] at hb; cases hb
      · rw [upd_ne z]; exact g.fh b o hb
    · by_cases z : b = a
      · subst z; exact h2
      · rw [upd_ne z] at hb
        exact g.old b h0 (by rw [less_ne z]; exact hb)
  have o2 := o1.grow gr
  have hi : i < env.length := (List.getElem?_eq_some_iff.mp ho).1
  have o3 := o2.put (List.getElem?_set_self hi) hs h3
  rw [List.set_set] at o3
  have e1 : upd (upd H' a (.lst [])) a (.lst vs) = H' := by
    funext b
    by_cases z : b = a
    · subst z; rw [upd_same, h1]
    · rw [upd_ne z, upd_ne z]
  rw [e1] at o3
  exact o3
/-- a test that changes the slots -/
def tTM (K : KF) (env : List Sl) (k : Bool) (env' : List Sl) : TT := fun σ H Q => ∃ F0 H0 F, Ok K F0 H0 env σ F H ∧ ∀ F1 H1, Ok K F0 H0 env' σ F1 H1 → Q k H1
theorem t_notM {k : Bool} (h : PT X a (tTM K env k env')) : PT X (.UnaryOp .Not a pos) (tTM K env (!k) env') :=
  ptmono (pt_not h) fun σ H Q ⟨F0, H0, F, ok, q⟩ => ⟨F0, H0, F, ok, fun F1 H1 o1 => q F1 H1 o1⟩
theorem s_ifM {k : Bool} (hc : PT X c (tTM K env k env')) (h1 : k = true → PSs X t1 (tS K env' E)) (h2 : k = false → PSs X t2 (tS K env' E)) : PS X (.If c t1 t2 pos) (tS K env E) := by
  have never : ∀ {sts : List Stmt}, PSs X sts (fun _ _ _ => False) := fun {sts} => ⟨fun _ _ _ _ _ _ h => h.elim⟩
  cases k with
  | true => exact psmono (ps_if hc (h1 rfl) never) fun D σ H ⟨F0, H0, F, ok, r⟩ => ⟨F0, H0, F, ok, fun F1 H1 o1 => ⟨F0, H0, F1, o1, r⟩⟩
  | false => exact psmono (ps_if hc never (h2 rfl)) fun D σ H ⟨F0, H0, F, ok, r⟩ => ⟨F0, H0, F, ok, fun F1 H1 o1 => ⟨F0, H0, F1, o1, r⟩⟩
/-- f(y, ..), y a list of this def that f changes -/
def tEM (K : KF) (env : List Sl) (d : PyData) (env' : List Sl) : TE := fun σ H Q => ∃ F0 H0 F, Ok K F0 H0 env σ F H ∧ ∀ v F1 H1, Ok K F0 H0 env' σ F1 H1 → Dq K F1 v d → Q v H1
theorem e_callM {R : List PyData → List PyData → PyData → List PyData → Prop} (i : Nat) (D : Def X.prog X.w X.K X.mg X.base k x (spM X.K n R)) (hr : Room k X.A) (ho : env[i]? = some (.own ds)) (ha : PA X es (tA X.K true env ds1)) (hn : ds1.length + 1 = n) (hR : R ds ds1 d rs)
    (hN : X.N[i]? = some y := by rfl) (hv : Vis X.env.scope y := by first | exact .inl rfl | exact .inr (.inl rfl) | exact .inr (.inr rfl)) (hg : Gl X x := by rfl) (hdb : (x == ("__debug__" : Str)) = false := by decide) (hd : (y == ("__debug__" : Str)) = false := by decide) (hcd : (y == ("__classdict__" : Str)) = false := by decide)
    (he : starEach (.Name y q :: es) X.env = (false, eval (.Name y q) X.env) :: starEach es X.env := by rfl) (hpl : (backTo pos (starEach es X.env)).any (·.1) = false := by rfl) :
    PE X (.Call (.Name x p) (.Name y q :: es) [] pos) (tEM X.K env d (env.set i (.own rs))) := by
  obtain ⟨f, fd, ps, Fo, hm, hk, hb⟩ := D
  exact pmono (pe_call (E := E0) Fo hr hg hm hk hb .nil pass0 (pa_cons (pe_var hN hv hd hcd) ha he) hdb he hpl) fun σ H Q ⟨F0, H0, F, ok, kk⟩ => by
    obtain ⟨a, ws, h1, h2, h3, h4, h5⟩ := ok.own i ds ho
    refine ⟨.ref a, h1, F0, H0, F, ok, fun us F1 H1 g1 x1 => ?_⟩
    have ok1 := ok.grow g1
    obtain ⟨a', ws', b1, b2, b3, b4, b5⟩ := ok1.own i ds ho
    rw [h1] at b1; cases b1
    refine ⟨F1, a, us, ws', ds, ds1, d, rs, by rw [List.append_nil], g1.fh, b2, b4, b5, x1, hn, hR, fun v F' H' vs' g hv h6 h7 h8 => ?_⟩
    exact kk v F' H' (ok1.mut ho h1 g h6 h7 h8) hv
theorem t_valM {k : Bool} (h : PE X e (tEM K env (.bool k) env')) (he : ∀ whole, isTrue e X.env whole = (do let v ← whole; standAt e.pos; holding [v] (truthy v)) := by intro _; rfl) : PT X e (tTM K env k env') :=
  ptmono (pt_val h he) fun σ H Q ⟨F0, H0, F, ok, q⟩ => ⟨F0, H0, F, ok, fun v F' H' o x => by
    cases x
    exact ⟨k, rfl, q F' H' o⟩⟩
theorem s_dropM (he : PE X e (tEM K env d env')) (h : E.nx env') (hs : swapsWith e none pos.line X.env = pure false := by rfl) : PS X (.Expr e pos) (tS K env E) :=
  psmono (ps_expr he hs) fun D σ H ⟨F0, H0, F, ok, n, _⟩ => ⟨F0, H0, F, ok, fun v F1 H1 o1 x1 => n _ _ F1 H1 h o1⟩
end
end D3
/-! ### statements of a def that changes the list of its first slot -/
namespace D3P
open PySem PySem.Spec L2 PyProof.Rows D3
abbrev DE := D3.DE
section
variable {X : Cx} {K : KF} {e a b c b1 b2 : Expr} {es : List Expr} {env env' : List Sl} {d : PyData} {ds : List PyData} {pos p1 p2 p3 p4 p5 : Pos} {E : D3.DE} {st : Stmt} {rest sts body : List Stmt} {x : Str} {p : Addr}
theorem s_nil (h : E.nx env) : PSs X [] (tP p K env E) := pssmono pss_nil fun D σ H ⟨h0, F0, H0, F, ok, n, _⟩ => n env σ F H h h0 ok
theorem s_cons {M : List Sl → Prop} (h1 : PS X st (tP p K env (E.to M))) (h2 : ∀ env', M env' → PSs X rest (tP p K env' E)) : PSs X (st :: rest) (tP p K env E) :=
  pssmono (pss_cons (u := fun D σ H => ∃ env', M env' ∧ tP p K env' E D σ H) h1 ⟨fun pins s σ H D I ⟨e', hm, q⟩ => (h2 e' hm).run pins s σ H D I q⟩) fun D σ H ⟨h0, F0, H0, F, ok, n, bk, ct, rt⟩ =>
    ⟨h0, F0, H0, F, ok, fun e' σ' F' H' hm q0 ok' => ⟨e', hm, q0, F0, H0, F', ok', n, bk, ct, rt⟩, bk, ct, rt⟩
theorem s_then {env' : List Sl} (h1 : PS X st (tP p K env (E.to (· = env')))) (h2 : PSs X rest (tP p K env' E)) : PSs X (st :: rest) (tP p K env E) := s_cons h1 fun e q => q ▸ h2
theorem s_last (h1 : PS X st (tP p K env E)) : PSs X [st] (tP p K env E) := pss_one h1
theorem s_stop (h1 : PS X st (tP p K env (E.to fun _ => False))) : PSs X (st :: rest) (tP p K env E) := s_cons h1 fun e q => q.elim
theorem s_fork (h1 : PS X st (tP p K env (E.to fun e => PSs X rest (tP p K e E)))) : PSs X (st :: rest) (tP p K env E) := s_cons h1 fun e q => q
theorem s_env {env' : List Sl} {sts : List Stmt} (h : env = env') (k : PSs X sts (tP p K env' E)) : PSs X sts (tP p K env E) := h ▸ k
theorem s_le {env' : List Sl} (h : LeE env env') (k : PSs X sts (tP p K env' E)) : PSs X sts (tP p K env E) := pssmono k fun D σ H ⟨h0, F0, H0, F, ok, r⟩ => ⟨h0, F0, H0, F, ok.le h, r⟩
theorem s_frz {i : Nat} (ho : env[i]? = some (.own ds)) (k : PSs X sts (tP p K (env.set i (.dat (.list ds))) E)) : PSs X sts (tP p K env E) := pssmono k fun D σ H ⟨h0, F0, H0, F, ok, r⟩ => by
  obtain ⟨F', _, _, ok'⟩ := ok.freeze ho
  exact ⟨h0, F0, H0, F', ok', r⟩
theorem s_if {k : Bool} {t1 t2 : List Stmt} (hc : PT X c (tT K env k)) (h1 : k = true → PSs X t1 (tP p K env E)) (h2 : k = false → PSs X t2 (tP p K env E)) : PS X (.If c t1 t2 pos) (tP p K env E) := by
  have never : ∀ {sts : List Stmt}, PSs X sts (fun _ _ _ => False) := fun {sts} => ⟨fun _ _ _ _ _ _ h => h.elim⟩
  cases k with
  | true => exact psmono (ps_if hc (h1 rfl) never) fun D σ H ⟨h0, F0, H0, F, ok, r⟩ => ⟨F0, H0, F, ok, fun F1 H1 g1 => ⟨h0, F0, H0, F1, ok.grow g1, r⟩⟩
  | false => exact psmono (ps_if hc never (h2 rfl)) fun D σ H ⟨h0, F0, H0, F, ok, r⟩ => ⟨F0, H0, F, ok, fun F1 H1 g1 => ⟨h0, F0, H0, F1, ok.grow g1, r⟩⟩
theorem at0_set {σ : L2.St} {i : Nat} {v : Option V} (h : At0 p σ) (hi : i ≠ 0) : At0 p (σ.set i v) := by
  show (σ.set i v)[0]? = _
  rw [List.getElem?_set_ne hi]; exact h
theorem s_set {x : Str} (i : Nat) (hN : X.N.Nodup) (hi : X.N[i]? = some x) (he : PE X e (tE K true env d)) (h : E.nx (env.set i (.dat d))) (hi0 : i ≠ 0 := by decide) (hx : Loc X.env.scope x := by first | exact .inl rfl | exact .inr rfl)
    (hs : swapsWith e (some (.Name x p1)) pos.line X.env = pure false := by rfl) (hf : X.fn x = true ∨ X.env.scope.names.lookup x = some .local := by first | exact .inl rfl | exact .inr rfl) : PS X (.Assign [.Name x p1] e pos) (tP p K env E) :=
  psmono (ps_set hN hi hx he hs hf) fun D σ H ⟨h0, F0, H0, F, ok, n, _⟩ => ⟨F0, H0, F, ok, fun v F1 H1 g1 x1 => n _ _ F1 H1 h (at0_set h0 hi0) ((ok.grow g1).setDat x1)⟩
theorem s_setLc {α : Type} {zs : List α} {enc : α → PyData} {g : TG} {ix : List Nat} {f : α → List Sl → List Sl} {tb : α → Bool} {y : α → PyData} {own : List (Str × Nat)} {tg iter elt : Expr} {ifs : List Expr} {scope : Scope} {x : Str} {py spos : Pos} (i : Nat)
    (hN : X.N.Nodup) (hxi : X.N[i]? = some x) (hi : PI X tg iter (tI X.K env (zs.map enc))) (hl : zs.length ≤ 1000000) (okb : blkC X.N X.env.scope scope own = true) (hg : Blk X scope fun X' => PG X' tg g)
    (hf : ∀ z ∈ zs, Asg X.K g (enc z) (f z) ix) (hix : ∀ i ∈ ix, i ∈ own.map (·.2))
    (ht : ∀ z ∈ zs, Blk X scope fun X' => PTs X' ifs (tT X.K (f z (wipeE env (own.map (·.2)))) (tb z)))
    (he : ∀ z ∈ zs, tb z = true → Blk X scope fun X' => PE X' elt (tE X.K true (f z (wipeE env (own.map (·.2)))) (y z)))
    (h : E.nx (env.set i (.own ((zs.filter tb).map y)))) (hi0 : i ≠ 0) (hsw : swapsWith (.ListComp elt [⟨tg, iter, ifs, 0⟩] scope pos) (some (.Name x py)) spos.line X.env = pure true) (hyl : X.env.scope.names.lookup x = some .local := by rfl)
    (hc : X.calm = true := by rfl) (hs : ∀ x, foldedSetIterable iter X.env x = pure x := by intro _; rfl) : PS X (.Assign [.Name x py] (.ListComp elt [⟨tg, iter, ifs, 0⟩] scope pos) spos) (tP p X.K env E) :=
  psmono (ps_setLc (te := fun σ H Q => ∃ z, (z ∈ zs ∧ tb z = true) ∧ tE X.K true (f z (wipeE env (own.map (·.2)))) (y z) σ H Q) (tt := fun σ H Q => ∃ z, (z ∈ zs) ∧ tT X.K (f z (wipeE env (own.map (·.2)))) (tb z) σ H Q) hc hN hxi hyl hsw hi (blkOk_by okb) hg
    (fun s H C cl fp => ⟨fun pins s1 σ H Q I ⟨z, hz, q⟩ => (ht z hz s _ C cl fp).run pins s1 σ H Q I q⟩) (fun s H C cl fp => ⟨fun pins s1 σ H Q I ⟨z, hz, q⟩ => (he z hz.1 hz.2 s _ C cl fp).run pins s1 σ H Q I q⟩) hs) fun D σ H ⟨h0, F0, H0, F, ok, n, _⟩ =>
      lc_read hl hf hix ⟨F0, H0, F, ok, fun p vs F1 H1 g1 h1 h2 h3 h4 => n _ _ F1 H1 h (at0_set h0 hi0) (ok.newOwn g1 h1 h2 h3 h4)⟩
theorem s_setLcT {α β : Type} {zs : List α} {enc : α → PyData} {encB : β → PyData} {g : TG} {ix : List Nat} {f : α → List Sl → List Sl} {tb : α → Bool} {y : α → β} {own : List (Str × Nat)} {tg iter elt : Expr} {ifs : List Expr} {scope : Scope} {x : Str} {py spos : Pos} (i : Nat)
    (hN : X.N.Nodup) (hxi : X.N[i]? = some x) (hi : PI X tg iter (tI X.K env (zs.map enc))) (hl : zs.length ≤ 1000000) (okb : blkC X.N X.env.scope scope own = true) (hg : Blk X scope fun X' => PG X' tg g)
    (hf : ∀ z ∈ zs, Asg X.K g (enc z) (f z) ix) (hix : ∀ i ∈ ix, i ∈ own.map (·.2))
    (ht : ∀ z ∈ zs, Blk X scope fun X' => PTs X' ifs (tT X.K (f z (wipeE env (own.map (·.2)))) (tb z)))
    (he : ∀ z ∈ zs, tb z = true → Blk X scope fun X' => PE X' elt (tE X.K true (f z (wipeE env (own.map (·.2)))) (encB (y z))))
    (h : E.nx (env.set i (.own (((zs.filter tb).map y).map encB)))) (hi0 : i ≠ 0 := by decide) (hsw : swapsWith (.ListComp elt [⟨tg, iter, ifs, 0⟩] scope pos) (some (.Name x py)) spos.line X.env = pure true := by exact sw_true rfl rfl rfl (by decide +kernel)) (hyl : X.env.scope.names.lookup x = some .local := by rfl)
    (hc : X.calm = true := by rfl) (hs : ∀ x, foldedSetIterable iter X.env x = pure x := by intro _; rfl) : PS X (.Assign [.Name x py] (.ListComp elt [⟨tg, iter, ifs, 0⟩] scope pos) spos) (tP p X.K env E) :=
  s_setLc (y := fun z => encB (y z)) i hN hxi hi hl okb hg hf hix ht he (by rw [show (fun z => encB (y z)) = encB ∘ y from rfl, ← List.map_map]; exact h) hi0 hsw hyl hc hs
theorem s_setIxG {α : Type} {enc : α → PyData} {zs : List α} {z : α} {j : Int} (i : Nat) (ho : env[i]? = some (.own (zs.map enc))) (he : PE X e (tE X.K true env (enc z))) (hb : PE X b (tE X.K true env (.int j))) (hj : 0 ≤ j ∧ j < zs.length) (h : E.nx (env.set i (.own ((zs.set j.toNat z).map enc)))) (hi : X.N[i]? = some x := by rfl) (hv : Vis X.env.scope x := by first | exact .inl rfl | exact .inr (.inl rfl) | exact .inr (.inr rfl))
    (hd : (x == ("__debug__" : Str)) = false := by decide) (hcd : (x == ("__classdict__" : Str)) = false := by decide)
    (ha : ∀ v, assign (.Subscript (.Name x p1) b p2) X.env v = (do
      let ov ← holding [v] (eval (.Name x p1) X.env)
      let iv ← holding [v, ov] (eval b X.env)
      standAt p2
      holding [v, ov, iv] (setItem ov iv v)
      release [v, ov, iv] []) := by intro _; rfl)
    (hs : swapsWithSole [.Subscript (.Name x p1) b p2] e pos.line X.env = pure false := by rfl) (hw : swappedStores [.Subscript (.Name x p1) b p2] e X.env = pure none := by rfl) : PS X (.Assign [.Subscript (.Name x p1) b p2] e pos) (tP p X.K env E) :=
  psmono (ps_asg he (pg_sub (pe_var hi hv hd hcd) hb set_list ha) hs hw) fun D σ H ⟨h0, F0, H0, F, ok, n, _⟩ => ⟨F0, H0, F, ok, fun v F1 H1 g1 x1 => by
    obtain ⟨p, vs, h1, h2, h3, h4, h5⟩ := ok.own i _ ho
    refine ⟨.ref p, h1, F0, H0, F1, ok.grow g1, fun w F2 H2 g2 x2 => ?_⟩
    cases x2
    refine ⟨p, vs, j, j.toNat, rfl, rfl, g2.hh _ _ (g1.hh _ _ h4), by unfold ixN; rw [if_pos hj.1, if_pos (by rw [h5.length, List.length_map]; exact hj.2)], n _ _ F2 _ h h0 ?_⟩
    have := ((ok.grow g1).grow g2).put ho h1 (DqAll.set (x1.up g2.ff) j.toNat (h5.up (g1.ff.trans g2.ff)))
    rw [setMap] at this
    exact this⟩
theorem s_swap {α : Type} {enc : α → PyData} {zs : List α} {z1 z2 : α} {j1 j2 : Int} {kt : Nat} (i : Nat) (ho : env[i]? = some (.own (zs.map enc))) (he : PE X e (tE X.K true env (eT2 enc enc (z1, z2))))
    (h1 : 0 ≤ j1 ∧ j1 < zs.length) (h2 : 0 ≤ j2 ∧ j2 < zs.length) (hg : PG X (.Tuple [.Subscript (.Name x p1) b1 p2, .Subscript (.Name x p3) b2 p4] kt p5) (gTup X.K 2 (gCons (gSub (tVar i) (tE X.K true env (.int j1)) L2.rSetL) (gCons (gSub (tVar i) (tE X.K true (env.set i (.own ((zs.set j1.toNat z1).map enc))) (.int j2)) L2.rSetL) gNil))))
    (h : E.nx (env.set i (.own (((zs.set j1.toNat z1).set j2.toNat z2).map enc))))
    (hi : X.N[i]? = some x := by rfl) (hv : Vis X.env.scope x := by first | exact .inl rfl | exact .inr (.inl rfl) | exact .inr (.inr rfl)) (hd : (x == ("__debug__" : Str)) = false := by decide) (hcd : (x == ("__classdict__" : Str)) = false := by decide) (hc : X.calm = true := by rfl)
    (hs : swapsWithSole [.Tuple [.Subscript (.Name x p1) b1 p2, .Subscript (.Name x p3) b2 p4] kt p5] e pos.line X.env = pure false := by rfl) (hw : swappedStores [.Tuple [.Subscript (.Name x p1) b1 p2, .Subscript (.Name x p3) b2 p4] kt p5] e X.env = pure none := by rfl) :
    PS X (.Assign [.Tuple [.Subscript (.Name x p1) b1 p2, .Subscript (.Name x p3) b2 p4] kt p5] e pos) (tP p X.K env E) :=
  psmono (ps_asg he hg hs hw) fun D σ H ⟨h0, F0, H0, F, ok, n, _⟩ => ⟨F0, H0, F, ok, fun v F1 H1 g1 x1 => swap_read (ok.grow g1) ho x1 h1 h2 fun F' H' ok' => n _ _ F' H' h h0 ok'⟩
theorem s_ret (he : PE X e (tE K true env d)) (ho : env[0]? = some (.own ds)) (h : E.rt (.own (d :: ds))) : PS X (.Return (some e) pos) (tP p K env E) :=
  psmono (ps_ret he) fun D σ H ⟨h0, F0, H0, F, ok, n, b, c, r⟩ => ⟨F0, H0, F, ok, fun v F1 H1 g1 x1 => by
    have ok1 := ok.grow g1
    obtain ⟨q, vs, a1, a2, a3, a4, a5⟩ := ok1.own 0 ds ho
    rw [h0] at a1; cases a1
    exact r _ h v F1 H1 vs ok1.g x1 a4 a2 a5⟩
theorem s_retN (ho : env[0]? = some (.own ds)) (h : E.rt (.own (.none :: ds))) : PSs X [] (tP p K env ⟨fun _ => True, E.rt, E.bk, E.ct⟩) := s_nil trivial
theorem RtP.rebase {F0 H0 F1 H1 : Hp} {r : RS} {Q : VK} (g1 : Grow F0 H0 F1 H1) (h : RtP p K F0 H0 r Q) : RtP p K F1 H0 r Q := by
  cases r with
  | own ds =>
    cases ds with
    | nil => trivial
    | cons d es => exact fun v F' H' vs g a b c d => h v F' H' vs (g1.unbase g) a b c d
  | _ => trivial
theorem at0_wipe {σ σ' : L2.St} {ix : List Nat} (h : wipe σ' ix = wipe σ ix) (h0 : 0 ∉ ix) (a : At0 p σ) : At0 p σ' := by
  have key : ∀ (τ : L2.St) (vs : List Nat), 0 ∉ vs → (wipe τ vs)[0]? = τ[0]? := fun τ vs => by
    induction vs with
    | nil => intro _; rfl
    | cons v vs ih =>
      intro hv
      unfold wipe
      rw [List.getElem?_set_ne (fun z => hv (by rw [z]; exact List.mem_cons_self)), ih fun z => hv (List.mem_cons_of_mem _ z)]
  show σ'[0]? = _
  rw [← key σ' ix h0, h, key σ ix h0]
  exact a
theorem s_for {α : Type} {zs : List α} {enc : α → PyData} {g : TG} {ix : List Nat} {f : α → List Sl → List Sl} {tg iter : Expr} {body : List Stmt} (I : Nat → List Sl → Prop) (hp : PassesOwn (model X.prog X.w) X.A X.env X.xe)
    (hi : PI X tg iter (tI X.K env (zs.map enc))) (hg : PG X tg g) (hf : ∀ z ∈ zs, Asg X.K g (enc z) (f z) ix) (hix : 0 ∉ ix) (h0 : I 0 env)
    (hb : ∀ (i : Nat) z env', zs[i]? = some z → I i env' → PSs X body (tP p X.K (f z env') ⟨I (i + 1), E.rt, E.nx, I (i + 1)⟩)) (hd : ∀ env', I zs.length env' → E.nx env')
    (hc : X.calm = true := by rfl) (hs : ∀ x, foldedSetIterable iter X.env x = pure x := by intro _; rfl) : PS X (.For tg iter body [] pos) (tP p X.K env E) :=
  psmono (ps_for (tb := fun D σ H => ∃ (i : Nat) (z : α) (env' : List Sl), (zs[i]? = some z ∧ I i env') ∧ tP p X.K (f z env') ⟨I (i + 1), E.rt, E.nx, I (i + 1)⟩ D σ H) hp hc hi hg ⟨fun pins s σ H D J ⟨i, z, e', h, q⟩ => (hb i z e' h.1 h.2).run pins s σ H D J q⟩ hs) fun D σ H ⟨a0, F0, H0, F, ok, n, bk, ct, rt⟩ => by
    refine ⟨F0, H0, F, ok, fun J F1 H1 g1 gv => ⟨fun i m σ' H' => i ≤ zs.length ∧ m = zs.length - i ∧ At0 p σ' ∧ ∃ env' F', I i env' ∧ Ok X.K F0 H0 env' σ' F' H' ∧ Ex F1 F', ⟨zs.length, Nat.zero_le _, rfl, a0, env, F1, h0, ok.grow g1, Ex.refl _⟩, ?_⟩⟩
    have gb : Grow F0 H0 F1 H1 := ok.g.trans g1
    rintro i m σ' H' ⟨hle, rfl, a1, env', F', hI, ok', ex⟩
    by_cases hlt : i < zs.length
    · have hz : zs[i]? = some zs[i] := List.getElem?_eq_getElem hlt
      refine .inr ⟨gv.go i F' H' (by rw [List.length_map]; exact hlt) ex ok'.g.fh, fun σ2 H2 => At0 p σ2 ∧ ∃ env2 F2, I (i + 1) env2 ∧ Ok X.K F0 H0 env2 σ2 F2 H2 ∧ Ex F1 F2, fun σ2 H2 ⟨a2, env2, F2, q1, q2, q3⟩ => ⟨zs.length - (i + 1), by omega, hlt, rfl, a2, env2, F2, q1, q2, q3⟩, fun x H3 hy => ?_⟩
      obtain ⟨F3, g3, x3⟩ := gv.yld i (enc zs[i]) F' H' x H3 (by rw [List.getElem?_map, hz]; rfl) ex ok'.g.fh hy
      refine hf zs[i] (List.getElem_mem hlt) F0 H0 F3 H3 env' σ' x _ (ok'.grow g3) x3 fun σ4 ok4 hw => ?_
      refine ⟨i, zs[i], env', ⟨hz, hI⟩, at0_wipe (hw ix fun _ h => h) hix a1, F1, H0, F3, ok4.rebase gb (ex.trans g3.ff), fun e2 σ2 F2 H2 h2 a2 ok2 => ⟨a2, e2, F2, h2, ok2.unbase gb, ok2.g.ff⟩, fun e2 σ2 F2 H2 h2 a2 ok2 => n e2 σ2 F2 H2 h2 a2 (ok2.unbase gb), fun e2 σ2 F2 H2 h2 a2 ok2 => ⟨a2, e2, F2, h2, ok2.unbase gb, ok2.g.ff⟩, fun r hr => RtP.rebase gb (rt r hr)⟩
    · have e : i = zs.length := by omega
      subst e
      exact .inl ⟨gv.stop _ F' H' (by rw [List.length_map]; exact Nat.le_refl _) ex ok'.g.fh, n env' σ' F' H' (hd env' hI) a1 ok'⟩
theorem c_forTP {α : Type} {enc : α → PyData} {zs : List α} {tg iter : Expr} {g : TG} {ix : List Nat} {f : α → List Sl → List Sl} {body : List Stmt} (U : Nat → List (Nat × Sl)) (Pr : Nat → Prop) (hp : PassesOwn (model X.prog X.w) X.A X.env X.xe) (hi : PI X tg iter (tI X.K env (zs.map enc))) (hg : PG X tg g)
    (hf : ∀ z ∈ zs, Asg X.K g (enc z) (f z) ix) (hfl : ∀ z e1 e2, LeE e1 e2 → LeE (f z e1) (f z e2)) (h0 : LeE env (setAll env (U 0))) (p0 : Pr 0)
    (hb : ∀ (i : Nat) z, zs[i]? = some z → Pr i → PSs X body (tP p X.K (f z (setAll env (U i))) ⟨fun e => Pr (i + 1) ∧ LeE e (setAll env (U (i + 1))), E.rt, fun e => PSs X rest (tP p X.K e E), fun e => Pr (i + 1) ∧ LeE e (setAll env (U (i + 1)))⟩)) (hd : Pr zs.length → PSs X rest (tP p X.K (setAll env (U zs.length)) E))
    (hix : 0 ∉ ix := by decide) (hc : X.calm = true := by rfl) (hs : ∀ x, foldedSetIterable iter X.env x = pure x := by intro _; rfl) : PSs X (.For tg iter body [] pos :: rest) (tP p X.K env E) :=
  s_cons (M := fun e => PSs X rest (tP p X.K e E)) (s_for (E := E.to fun e => PSs X rest (tP p X.K e E)) (fun i e => Pr i ∧ LeE e (setAll env (U i))) hp hi hg hf hix ⟨p0, h0⟩ (fun i z env' hz hI => s_le (hfl z _ _ hI.2) (hb i z hz hI.1)) (fun e he => s_le he.2 (hd he.1)) hc hs) fun e q => q
theorem c_forT {α : Type} {enc : α → PyData} {zs : List α} {tg iter : Expr} {g : TG} {ix : List Nat} {f : α → List Sl → List Sl} {body : List Stmt} (U : Nat → List (Nat × Sl)) (hp : PassesOwn (model X.prog X.w) X.A X.env X.xe) (hi : PI X tg iter (tI X.K env (zs.map enc))) (hg : PG X tg g)
    (hf : ∀ z ∈ zs, Asg X.K g (enc z) (f z) ix) (hfl : ∀ z e1 e2, LeE e1 e2 → LeE (f z e1) (f z e2)) (h0 : LeE env (setAll env (U 0)))
    (hb : ∀ (i : Nat) z, zs[i]? = some z → PSs X body (tP p X.K (f z (setAll env (U i))) ⟨fun e => LeE e (setAll env (U (i + 1))), E.rt, fun e => PSs X rest (tP p X.K e E), fun e => LeE e (setAll env (U (i + 1)))⟩)) (hd : PSs X rest (tP p X.K (setAll env (U zs.length)) E))
    (hix : 0 ∉ ix := by decide) (hc : X.calm = true := by rfl) (hs : ∀ x, foldedSetIterable iter X.env x = pure x := by intro _; rfl) : PSs X (.For tg iter body [] pos :: rest) (tP p X.K env E) :=
  s_cons (M := fun e => PSs X rest (tP p X.K e E)) (s_for (E := E.to fun e => PSs X rest (tP p X.K e E)) (fun i e => LeE e (setAll env (U i))) hp hi hg hf hix h0 (fun i z env' hz hI => s_le (hfl z _ _ hI) (hb i z hz)) (fun e he => s_le he hd) hc hs) fun e q => q
theorem c_forR {j : Nat} {n : Int} {body : List Stmt} {y : Str} {p p1 p3 : Pos} {q : Addr} (U : Nat → List (Nat × Sl)) (hp : PassesOwn (model X.prog X.w) X.A X.env X.xe) (hm : X.mg "range" = none) (ha : PE X a (tE X.K true env (.int n))) (hj : -(2 ^ 62) ≤ n ∧ n < 2 ^ 62)
    (hN : X.N.Nodup) (hi : X.N[j]? = some y) (h0 : LeE env (setAll env (U 0)))
    (hb : ∀ i : Nat, (i : Int) < n → PSs X body (tP q X.K ((setAll env (U i)).set j (.dat (.int (i : Int)))) ⟨fun e => LeE e (setAll env (U (i + 1))), E.rt, fun e => PSs X rest (tP q X.K e E), fun e => LeE e (setAll env (U (i + 1)))⟩)) (hd : PSs X rest (tP q X.K (setAll env (U n.toNat)) E))
    (hj0 : j ≠ 0 := by decide) (hc : X.calm = true := by rfl) (hx : Loc X.env.scope y := by first | exact .inl rfl | exact .inr rfl) (hf : X.fn y = true ∨ X.env.scope.names.lookup y = some .local := by first | exact .inl rfl | exact .inr rfl)
    (hs : ∀ x, foldedSetIterable (.Call (.Name "range" p) [a] [] p1) X.env x = pure x := by intro _; rfl) (hg : Gl X "range" := by rfl) (na : NS X a := by exact fun _ => rfl) : PSs X (.For (.Name y p3) (.Call (.Name "range" p) [a] [] p1) body [] pos :: rest) (tP q X.K env E) := by
  have h := c_forT (X := X) (E := E) (p := q) (rest := rest) (pos := pos) (body := body) (tg := .Name y p3) (zs := List.range n.toNat) (enc := fun (i : Nat) => PyData.int (i : Int)) (f := fun (i : Nat) e => e.set j (.dat (.int (i : Int)))) U hp (i_rngN (p1 := p) (pos := p1) hm ha hj hg na) (pg_name hN hi hx hf) (fun z _ => asg_nameA _) (fun z e1 e2 h => LeE.set_ h) h0
    (fun i z hz => by
      have hi' : i < n.toNat := by simpa using (List.getElem?_eq_some_iff.mp hz).1
      have hz' : z = i := by
        rw [List.getElem?_range hi'] at hz
        exact (Option.some.inj hz).symm
      subst hz'
      exact hb z (by omega)) (by rw [List.length_range]; exact hd) (by intro z; rw [List.mem_singleton] at z; exact hj0 z.symm) hc hs
  exact h
theorem c_forRN {j : Nat} {n : Nat} {body : List Stmt} {y : Str} {p p1 p3 : Pos} {q : Addr} (U : Nat → List (Nat × Sl)) (hp : PassesOwn (model X.prog X.w) X.A X.env X.xe) (hm : X.mg "range" = none) (ha : PE X a (tE X.K true env (.int (n : Int)))) (hj : n < 2 ^ 62)
    (hN : X.N.Nodup) (hi : X.N[j]? = some y) (h0 : LeE env (setAll env (U 0)))
    (hb : ∀ i : Nat, i < n → PSs X body (tP q X.K ((setAll env (U i)).set j (.dat (.int (i : Int)))) ⟨fun e => LeE e (setAll env (U (i + 1))), E.rt, fun e => PSs X rest (tP q X.K e E), fun e => LeE e (setAll env (U (i + 1)))⟩)) (hd : PSs X rest (tP q X.K (setAll env (U n)) E))
    (hj0 : j ≠ 0 := by decide) (hc : X.calm = true := by rfl) (hx : Loc X.env.scope y := by first | exact .inl rfl | exact .inr rfl) (hf : X.fn y = true ∨ X.env.scope.names.lookup y = some .local := by first | exact .inl rfl | exact .inr rfl)
    (hs : ∀ x, foldedSetIterable (.Call (.Name "range" p) [a] [] p1) X.env x = pure x := by intro _; rfl) (hg : Gl X "range" := by rfl) (na : NS X a := by exact fun _ => rfl) : PSs X (.For (.Name y p3) (.Call (.Name "range" p) [a] [] p1) body [] pos :: rest) (tP q X.K env E) :=
  c_forR U hp hm ha ⟨by omega, by omega⟩ hN hi h0 (fun i h => hb i (by omega)) hd hj0 hc hx hf hs hg na
end
end D3P
namespace D3
open PySem PySem.Spec L2 PyProof.Rows
section
variable {X : Cx} {K : KF} {e a b c1 : Expr} {m1 : Bool} {env env' : List Sl} {d : PyData} {ds : List PyData} {pos p1 p2 p3 : Pos} {E : DE} {x y : Str} {c m : Nat}
/-! ### sum, index -/
theorem e_sumI {xs : List Int} (hm : X.mg "sum" = none) (h : PE X e (tL X.K env (xs.map .int))) (hc : X.calm = true := by rfl) (hg : Gl X "sum" := by rfl) (hv : bootBuiltins "sum" = some (.builtin "sum") := by decide +kernel) (ns : NS X e := by exact fun _ => rfl) :
    PE X (.Call (.Name "sum" p1) [e] [] pos) (tE X.K m1 env (.int xs.sum)) :=
  pmono (pe_callB (cr_sum hc) hg hm hv (pa_cons h pa_nil (ns [])) (he := ns [])) fun σ H Q ⟨F0, H0, F, ok, k⟩ => ⟨F0, H0, F, ok, fun p vs F1 H1 g1 x y => ⟨p, xs, rfl, by rw [DqAll.ints y] at x; exact sqOf x, k _ F1 H1 g1 (.int _)⟩⟩
theorem idx_facts : ∀ {xs : List Int} {v : Int}, v ∈ xs → xs[xs.idxOf v]? = some v ∧ ∀ (k : Nat) (z : Int), k < xs.idxOf v → xs[k]? = some z → z ≠ v
  | [], v, h => by cases h
  | x :: xs, v, h => by
    by_cases e : x = v
    · subst e
      rw [List.idxOf_cons_self]
      exact ⟨rfl, fun k z hk _ => absurd hk (Nat.not_lt_zero k)⟩
    · have hm : v ∈ xs := by
        rcases List.mem_cons.mp h with h | h
        · exact absurd h.symm e
        · exact h
      obtain ⟨a, b⟩ := idx_facts hm
      have ec : (x :: xs).idxOf v = xs.idxOf v + 1 := by rw [List.idxOf_cons, show (x == v) = false from beq_false_of_ne e]; rfl
      rw [ec]
      refine ⟨by rw [List.getElem?_cons_succ]; exact a, fun k z hk hz => ?_⟩
      cases k with
      | zero => simp at hz; rw [← hz]; exact e
      | succ k => exact b k z (by omega) (by simpa using hz)
theorem e_indexI {xs : List Int} {v : Int} (h : PE X e (tE X.K true env (eL .int xs))) (hb : PE X b (tE X.K true env (.int v))) (hv : v ∈ xs) (na : NS X b := by exact fun _ => rfl)
    (hbase : attributeBase e "index" X.env (eval e X.env) = eval e X.env := by rfl) (hline : (p2.endLine == p3.line) = true := by rfl) :
    PE X (.Call (.Attribute e "index" p2) [b] [] p3) (tE X.K m1 env (.int ((xs.idxOf v : Nat) : Int))) :=
  pmono (pe_bm (hline := hline) PySem.F.plainAttrs_list PySem.F.slot_list_index PySem.F.type_list_index mt_index h (pa_cons hb pa_nil (na [])) (hs := na []) (hfew := by rw [na []]; rfl) (hbase := hbase)) fun σ H Q ⟨F0, H0, F, ok, q⟩ => by
    refine ⟨F0, H0, F, ok, fun w F1 H1 g1 x1 => ?_⟩
    cases (show Dq X.K F1 w (.list (xs.map .int)) from x1) with
    | lst hs ha =>
      refine ⟨.inl ⟨rfl, _, .inl (.inl (g1.fh _ _ hs))⟩, F0, H0, F1, ok.grow g1, fun u F2 H2 g2 x2 => ?_⟩
      cases (show Dq X.K F2 u (.int v) from x2)
      obtain ⟨f1, f2⟩ := idx_facts hv
      have hi := DqAll.ints ha
      subst hi
      refine ⟨_, _, .int v, xs.idxOf v, .int v, rfl, rfl, sqOf (g2.hh _ _ (g1.fh _ _ hs)), rfl, ?_, by rw [List.getElem?_map, f1]; rfl, ?_, fun k z hk hz => ?_, q _ F2 H2 (g1.trans g2) (.int _)⟩
      · rw [List.all_eq_true]
        intro z hz
        obtain ⟨i, _, rfl⟩ := List.mem_map.mp hz
        rfl
      · show decide (v = v) = true
        simp
      · rw [List.getElem?_map] at hz
        cases hk2 : xs[k]? with
        | none => rw [hk2] at hz; cases hz
        | some i =>
          rw [hk2] at hz
          cases hz
          show decide (i = v) = false
          exact decide_eq_false (f2 k i hk hk2)
theorem i_tup3 {tg l : Expr} {z : Int × Int × Int} (h : PE X l (tE X.K true env (eT3 PyData.int PyData.int PyData.int z))) : PI X tg l (tI X.K env ([z.1, z.2.1, z.2.2].map PyData.int)) := i_tup h
theorem nodup_of_inj {α : Type} : ∀ {l : List α}, (∀ (i j : Nat) (x : α), l[i]? = some x → l[j]? = some x → i = j) → l.Nodup
  | [], _ => List.nodup_nil
  | a :: l, h => by
    refine List.nodup_cons.mpr ⟨fun hm => ?_, nodup_of_inj fun i j x hi hj => ?_⟩
    · obtain ⟨k, hk, e⟩ := List.getElem_of_mem hm
      have := h 0 (k + 1) a rfl (by rw [List.getElem?_cons_succ, List.getElem?_eq_getElem hk, e])
      omega
    · have := h (i + 1) (j + 1) x (by rw [List.getElem?_cons_succ]; exact hi) (by rw [List.getElem?_cons_succ]; exact hj)
      omega
/-! ### a list into a table -/
theorem Ok.tabSet {F0 H0 F H : Hp} {σ : L2.St} {Φ : Reg} {dss : List (List PyData)} {ep nn i k : Nat} {p : Addr} {ws : List V} (ok : Ok K F0 H0 env σ F H) (mo : Mes K H0 env σ F H Φ c) (ho : env[i]? = some (.tab ep c nn m dss)) (hfree : (env.set i .no).all (tabFree ep) = true)
    (h1 : F p = none) (h2 : H0 p = none) (h3 : H p = some (.lst ws)) (h4 : DqAll K F ws ds) (h5 : ds.length ≤ m) (h6 : ∀ j, ¬ OwnS env σ j p) (h7 : Φ p = none) (hk : k < dss.length) :
    ∃ q vs, σ[i]? = some (some (.ref q)) ∧ H q = some (.lst vs) ∧ vs.length = dss.length ∧ Ok K F0 H0 (env.set i (.tab ep c nn m (dss.set k ds))) σ F (upd H q (.lst (vs.set k (.ref p)))) := by
  obtain ⟨_, hep, q, vs, a1, a2, a3, a4⟩ := mo.tab i _ _ _ _ _ ho
  obtain ⟨r1, _, r3, us, r4, r5, r6⟩ := mo.reg q _ _ _ a2
  rw [a3] at r4; cases r4
  obtain ⟨n1, n2, n3⟩ := a4
  have hqp : q ≠ p := fun z => by rw [z, h7] at a2; cases a2
  have ownk : ∀ {zz : List (List PyData)} j q', OwnS (env.set i (.tab ep c nn m zz)) σ j q' → OwnS env σ j q' := fun {zz} j q' ⟨q1, q2⟩ => by
    refine ⟨q1, ?_⟩
    rcases q2 with ⟨ds, q2⟩ | ⟨t, ds, q2⟩
    · rcases get_set_cases q2 with ⟨_, _, z⟩ | ⟨_, z⟩
      · cases z
      · exact .inl ⟨ds, z⟩
    · rcases get_set_cases q2 with ⟨_, _, z⟩ | ⟨_, z⟩
      · cases z
      · exact .inr ⟨t, ds, z⟩
  have nown : ∀ j q', OwnS env σ j q' → q' ≠ q ∧ q' ≠ p := fun j q' hq => by
    refine ⟨fun z => ?_, fun z => h6 j (z ▸ hq)⟩
    have := (mo.own j q' hq).1
    rw [z, a2] at this; cases this
  let Φ' : Reg := fun a => if a = p then some (ep, m, .any) else Φ a
  have pN : Φ' p = some (ep, m, .any) := by show (if p = p then _ else _) = _; rw [if_pos rfl]
  have pO : ∀ a, a ≠ p → Φ' a = Φ a := fun a ha => by show (if a = p then _ else _) = _; rw [if_neg ha]
  have xr : ExR Φ Φ' := fun a z hz => by
    rw [pO a (fun w => by rw [w, h7] at hz; cases hz)]; exact hz
  refine ⟨q, vs, a1, a3, n2, ok.putT (r3 hep) r1 a3 (fun j es hj z => ?_) (fun j s hj => ?_) (by rw [List.length_set]) ⟨Φ', c, fun a e n t hq => ?_, fun j q' hq => ?_, fun j k q' q1 q2 => mo.sep j k q' (ownk j q' q1) (ownk k q' q2), fun j e c' t d hj => ?_, fun j a vs e c' n t hj => ?_, fun j t ds hj => ?_, fun j e c' n m' dss' hj => ?_, TrF.none fun j v t hj => by
      rcases get_set_cases hj with ⟨_, _, q⟩ | ⟨ne, q⟩
      · cases q
      · have := free_get hfree q ne; cases this⟩⟩
  · exact (nown j q (ownk j q ⟨z, .inl ⟨es, hj⟩⟩)).1 rfl
  · rcases get_set_cases hj with ⟨_, _, z⟩ | ⟨_, z⟩
    · subst z; exact .inl trivial
    · exact .inr (.inr z)
  · by_cases ha : a = p
    · subst ha
      rw [pN] at hq; cases hq
      exact ⟨h2, fun z => absurd z hep, fun _ => h1, ws, by rw [upd_ne (Ne.symm hqp)]; exact h3, by rw [h4.length]; exact Nat.le_trans h5 (Nat.le_add_right _ _), fun _ _ => trivial⟩
    · rw [pO a ha] at hq
      obtain ⟨s1, s2, s3, us, s4, s5, s6⟩ := mo.reg a e n t hq
      by_cases haq : a = q
      · subst haq
        rw [a2] at hq; cases hq
        rw [a3] at s4; cases s4
        refine ⟨s1, s2, s3, vs.set k (.ref p), upd_same, by rw [List.length_set]; exact s5, fun w hw => ?_⟩
        rcases List.mem_or_eq_of_mem_set hw with hw | rfl
        · exact VT.up (Ex.refl _) xr _ _ (s6 w hw)
        · exact ⟨p, rfl, pN⟩
      · exact ⟨s1, s2, s3, us, by rw [upd_ne haq]; exact s4, s5, fun w hw => VT.up (Ex.refl _) xr _ _ (s6 w hw)⟩
  · obtain ⟨s1, s2, s3, us, s4⟩ := mo.own j q' (ownk j q' hq)
    obtain ⟨t1, t2⟩ := nown j q' (ownk j q' hq)
    exact ⟨by rw [pO q' t2]; exact s1, s2, s3, us, by rw [upd_ne t1]; exact s4⟩
  · rcases get_set_cases hj with ⟨_, _, z⟩ | ⟨ne, z⟩
    · cases z
    · have := free_get hfree z ne; cases this
  · rcases get_set_cases hj with ⟨_, _, z⟩ | ⟨ne, z⟩
    · cases z
    · have := free_get hfree z ne; cases this
  · rcases get_set_cases hj with ⟨_, _, z⟩ | ⟨ne, z⟩
    · cases z
    · obtain ⟨p', us, s1, s2, s3, s4⟩ := mo.ownN j t ds z
      exact ⟨p', us, s1, by rw [upd_ne (nown j p' ⟨s1, .inr ⟨t, ds, z⟩⟩).1]; exact s2, s3, fun w hw => VT.up (Ex.refl _) xr _ _ (s4 w hw)⟩
  · rcases get_set_cases hj with ⟨z0, _, z⟩ | ⟨ne, z⟩
    · subst z0
      cases z
      have npv : V.ref p ∉ vs := fun hw => by
        obtain ⟨a, e1, e2⟩ := r6 _ hw
        cases e1
        rw [h7] at e2; cases e2
      refine ⟨rfl, hep, q, vs.set k (.ref p), a1, by rw [pO q hqp]; exact a2, upd_same, ?_, by rw [List.length_set, List.length_set]; exact n2, fun l ds' hl => ?_⟩
      · clear n3 r5 r6 a3
        have hkv : k < vs.length := by omega
        refine nodup_of_inj fun i1 j1 w hi1 hj1 => ?_
        by_cases e1 : i1 = k
        · by_cases e2 : j1 = k
          · rw [e1, e2]
          · rw [e1, List.getElem?_set_self hkv] at hi1
            rw [List.getElem?_set_ne (Ne.symm e2)] at hj1
            cases hi1
            exact absurd (List.mem_of_getElem? hj1) npv
        · rw [List.getElem?_set_ne (Ne.symm e1)] at hi1
          by_cases e2 : j1 = k
          · rw [e2, List.getElem?_set_self hkv] at hj1
            cases hj1
            exact absurd (List.mem_of_getElem? hi1) npv
          · rw [List.getElem?_set_ne (Ne.symm e2)] at hj1
            exact nodup_inj n1 hi1 hj1
      · by_cases e1 : k = l
        · subst e1
          rw [List.getElem?_set_self hk] at hl
          cases hl
          exact ⟨p, ws, List.getElem?_set_self (by omega), pN, by rw [upd_ne (Ne.symm hqp)]; exact h3, h4⟩
        · rw [List.getElem?_set_ne e1] at hl
          obtain ⟨p', us, t1, t2, t3, t4⟩ := n3 l ds' hl
          have tp : p' ≠ p := fun w => by rw [w, h7] at t2; cases t2
          have tq : p' ≠ q := fun w => by
            rw [w, a2] at t2; cases t2
          exact ⟨p', us, by rw [List.getElem?_set_ne e1]; exact t1, by rw [pO p' tp]; exact t2, by rw [upd_ne tq]; exact t3, t4⟩
    · have hfr := free_get hfree z ne
      obtain ⟨s1, s0, q', vs', s2, s3, s4, s5⟩ := mo.tab j _ _ _ _ _ z
      have hee : e ≠ ep := fun y => by subst y; simp [tabFree] at hfr
      have nq : ∀ a n t, Φ a = some (e, n, t) → a ≠ q := fun a n t z y => by
        rw [y, a2] at z; cases z; exact hee rfl
      have np : ∀ a n t, Φ a = some (e, n, t) → a ≠ p := fun a n t z y => by
        rw [y, h7] at z; cases z
      exact ⟨s1, s0, q', vs', s2, by rw [pO _ (np _ _ _ s3)]; exact s3, by rw [upd_ne (nq _ _ _ s3)]; exact s4, s5.up (Ex.refl _) (fun p' z => by rw [pO _ (np _ _ _ z)]; exact z) (fun p' ws z z2 => by rw [upd_ne (nq _ _ _ z)]; exact z2)⟩
/-- t[k] = l, l a list that this def alone knows -/
theorem s_tabRow {α : Type} {enc : α → PyData} {zss : List (List α)} {zs : List α} {ep nn : Nat} {j1 : Int} (i j : Nat) (hi : X.N[i]? = some x) (hv : Vis X.env.scope x) (ho : env[i]? = some (.tab ep c nn m (zss.map (·.map enc)))) (hj : X.N[j]? = some y) (hvj : Vis X.env.scope y) (hoj : env[j]? = some (.own (zs.map enc)))
    (hb1 : PE X b (tE X.K true (env.set j .no) (.int j1))) (hj1 : 0 ≤ j1 ∧ j1 < (zss.length : Int)) (hm : zs.length ≤ m) (hfree : (env.set i .no).all (tabFree ep) = true) (hij : i ≠ j) (h : E.nx ((env.set j .no).set i (.tab ep c nn m ((zss.set j1.toNat zs).map (·.map enc)))))
    (hd : (x == ("__debug__" : Str)) = false := by decide) (hcd : (x == ("__classdict__" : Str)) = false := by decide) (hdj : (y == ("__debug__" : Str)) = false := by decide) (hcdj : (y == ("__classdict__" : Str)) = false := by decide)
    (ha : ∀ v, assign (.Subscript (.Name x p1) b p2) X.env v = (do
      let ov ← holding [v] (eval (.Name x p1) X.env)
      let iv ← holding [v, ov] (eval b X.env)
      standAt p2
      holding [v, ov, iv] (setItem ov iv v)
      release [v, ov, iv] []) := by intro _; rfl)
    (hs : swapsWithSole [.Subscript (.Name x p1) b p2] (.Name y p3) pos.line X.env = pure false := by rfl) (hw : swappedStores [.Subscript (.Name x p1) b p2] (.Name y p3) X.env = pure none := by rfl) : PS X (.Assign [.Subscript (.Name x p1) b p2] (.Name y p3) pos) (tS X.K env E) :=
  psmono (ps_asg (pe_var hj hvj hdj hcdj) (pg_sub (pe_var hi hv hd hcd) hb1 set_list ha) hs hw) fun D σ H ⟨F0, H0, F, ok, nx, _⟩ => by
    obtain ⟨p, ws, b1, b2, b3, b4, b5⟩ := ok.own j _ hoj
    obtain ⟨Φ, c0, mo0⟩ := ok.tre
    have os : OwnS env σ j p := ⟨b1, .inl ⟨_, hoj⟩⟩
    have hΦ := (mo0.own j p os).1
    have ok1 := ok.forget j
    have mo1 : Mes X.K H0 (env.set j .no) σ F H Φ c0 := mo0.setE trivial
    have ho1 : (env.set j .no)[i]? = some (.tab ep c nn m (zss.map (·.map enc))) := by rw [List.getElem?_set_ne (Ne.symm hij)]; exact ho
    obtain ⟨hc, hep, qq, vs, h1, h2, h3, h4⟩ := mo1.tab i _ _ _ _ _ ho1
    subst hc
    refine ⟨.ref p, b1, .ref qq, h1, F0, H0, F, ok1, fun w F1 H1 g1 x1 => ?_⟩
    cases (show Dq X.K F1 w (.int j1) from x1)
    have ok2 := ok1.grow g1
    have mo2 := mo1.grow g1 ok1.g.fh ok1.g.hh
    have nos : ∀ l, ¬ OwnS (env.set j .no) σ l p := fun l hl => by
      obtain ⟨q1, q2⟩ := OwnS.of_setE (s := .no) trivial hl
      exact q1 (mo0.sep j l p os q2)
    have hfree1 : ((env.set j .no).set i .no).all (tabFree ep) = true := by
      rw [List.set_comm _ _ (Ne.symm hij)]
      rw [List.all_eq_true] at hfree ⊢
      intro s hs
      rcases List.mem_or_eq_of_mem_set hs with hs | rfl
      · exact hfree s hs
      · rfl
    obtain ⟨q, us, e1, e2, e3, e4⟩ := ok2.tabSet (k := j1.toNat) mo2 ho1 hfree1 (g1.old p b2 (by rw [b4]; simp)) b3 (g1.hh _ _ b4) (b5.up g1.ff) (by rw [List.length_map]; exact hm) nos hΦ (by rw [List.length_map]; omega)
    rw [h1] at e1; cases e1
    refine ⟨qq, us, j1, j1.toNat, rfl, rfl, e2, ?_, nx _ _ F1 _ ?_ e4⟩
    · unfold ixN
      rw [if_pos hj1.1, if_pos (by rw [e3, List.length_map]; exact hj1.2)]
    · rw [List.map_set] at h
      exact h
end
end D3
namespace D3
open PySem PySem.Spec L2 PyProof.Rows
section
variable {X : Cx} {K : KF} {e a b b1 b2 b3 b4 : Expr} {env env' : List Sl} {d : PyData} {ds : List PyData} {pos p1 p2 p3 p4 p5 p6 p7 p8 p9 : Pos} {E : DE} {x y : Str} {c m : Nat} {rest : List Stmt} {pos' : Pos}
/-! ### range(i, j, -1) -/
def rngD (i j : Int) : List Int := (List.range (i - j).toNat).map fun (k : Nat) => i - (k : Int)
theorem gives_rngD {F : Hp} (i j : Int) : Gives K F (Itc i (-1) (i - j).toNat) ((rngD i j).map PyData.int) :=
  ⟨fun k F' H' hi _ _ => by
    have : k < (i - j).toNat := by simpa [rngD] using hi
    exact this, fun k F' H' hi _ _ => by
    have : (i - j).toNat ≤ k := by simpa [rngD] using hi
    exact this, fun k d F' H' x H'' hd e1 e2 hy => by
    obtain ⟨rfl, rfl⟩ := hy
    have hi : k < (i - j).toNat := by simpa [rngD] using (List.getElem?_eq_some_iff.mp hd).1
    have : d = .int (i + (k : Int) * (-1)) := by
      unfold rngD at hd
      rw [List.getElem?_map, List.getElem?_map, List.getElem?_range hi] at hd
      rw [← Option.some.inj hd]
      congr 1
      show i - (k : Int) = i + (k : Int) * (-1)
      omega
    subst this
    exact ⟨F', Grow.refl e2, .int _⟩⟩
theorem i_rngD {tg c0 : Expr} {i j : Int} (hm : X.mg "range" = none) (ha : PE X a (tE X.K true env (.int i))) (hb : PE X b (tE X.K true env (.int j))) (hc : PE X c0 (tE X.K true env (.int (-1)))) (hj : -(2 ^ 62) ≤ i ∧ i < 2 ^ 62 ∧ -(2 ^ 62) ≤ j ∧ j < 2 ^ 62) (hg : Gl X "range" := by rfl) (na : NS X a := by exact fun _ => rfl) (nb : NS X b := by exact fun _ => rfl) (nc : NS X c0 := by exact fun _ => rfl) (hpl : (backTo pos (starEach [b, c0] X.env)).any (·.1) = false := by rfl) :
    PI X tg (.Call (.Name "range" p1) [a, b, c0] [] pos) (tI X.K env ((rngD i j).map PyData.int)) :=
  pimono (pi_range3 hg hm (pa_cons ha (pa_cons hb (pa_cons hc pa_nil (nc [])) (nb [c0])) (na [b, c0])) (na [b, c0]) hpl) fun σ H R ⟨F0, H0, F, ok, k⟩ => ⟨F0, H0, F, ok, fun v F1 H1 g1 x => ⟨F0, H0, F1, ok.grow g1, fun w F2 H2 g2 y => ⟨F0, H0, F2, (ok.grow g1).grow g2, fun u F3 H3 g3 z => by
    cases x
    cases y
    cases z
    exact ⟨i, j, -1, _, rfl, RgC.neg hj.1 hj.2.1 hj.2.2.1 hj.2.2.2, k _ F3 H3 ((g1.trans g2).trans g3) (gives_rngD i j)⟩⟩⟩⟩
theorem o_listRng {n : Int} (hm : X.mg "list" = none) (hr : X.mg "range" = none) (h : PE X a (tE X.K true env (.int n))) (hn : 0 ≤ n ∧ n ≤ 1000000) (hc : X.calm = true := by rfl) (hg : Gl X "list" := by rfl) (hgr : Gl X "range" := by rfl) (na : NS X a := by exact fun _ => rfl) (nr : NS X (.Call (.Name "range" p2) [a] [] p3) := by exact fun _ => rfl) :
    PE X (.Call (.Name "list" p1) [.Call (.Name "range" p2) [a] [] p3] [] pos) (tO X.K env (((List.range n.toNat).map fun (k : Nat) => (k : Int)).map PyData.int)) :=
  pmono (pe_listRg hc hg hm (prg_1 hgr hr h (na [])) (nr [])) fun σ H Q ⟨F0, H0, F, ok, k⟩ => ⟨F0, H0, F, ok, fun v F1 H1 g1 x => by
    cases (show Dq X.K F1 v (.int n) from x)
    refine ⟨n, rfl, RgOk.of_le (by omega) (by omega) (by omega) (by omega), fun q hq => ?_⟩
    have e : rgV 0 n = ((List.range n.toNat).map fun (k : Nat) => (k : Int)).map V.int := by
      unfold rgV
      rw [List.map_map, Int.sub_zero]
      exact List.map_congr_left fun i _ => by show V.int (0 + (i : Int)) = V.int (i : Int); rw [Int.zero_add]
    rw [e]
    exact k q _ F1 _ (g1.trans (Grow.own g1.fh hq)) (g1.hh.back hq) (g1.fh.back hq) upd_same (DqAll.ofInts _)⟩
/-! ### the outer list of a table is written -/
theorem Ok.tabOut {F0 H0 F H : Hp} {σ : L2.St} {Φ : Reg} {ep nn i : Nat} {q : Addr} {us vs : List V} {s : Sl} (ok : Ok K F0 H0 (env.set i .no) σ F H) (mo : Mes K H0 (env.set i .no) σ F H Φ c) (hep : ep ≠ 0) (hfree : (env.set i .no).all (tabFree ep) = true)
    (a1 : σ[i]? = some (some (.ref q))) (a2 : Φ q = some (ep, nn, .L m .any)) (a3 : H q = some (.lst us)) (hl : vs.length = us.length) (hv : ∀ w ∈ vs, VT K F Φ ep (.L m .any) w) (hs : s = .no ∨ ∃ dss, s = .tab ep c nn m dss ∧ TabAt K F H Φ ep m vs dss) :
    Ok K F0 H0 (env.set i s) σ F (upd H q (.lst vs)) ∧ Mes K H0 (env.set i s) σ F (upd H q (.lst vs)) Φ c := by
  obtain ⟨r1, _, r3, ws, r4, r5, r6⟩ := mo.reg q _ _ _ a2
  rw [a3] at r4; cases r4
  have back : ∀ {j : Nat} {z : Sl}, (env.set i s)[j]? = some z → (i = j ∧ s = z) ∨ (i ≠ j ∧ (env.set i .no)[j]? = some z) := fun {j z} h => by
    rcases get_set_cases h with ⟨h1, _, h3⟩ | ⟨h1, h2⟩
    · exact .inl ⟨h1, h3⟩
    · exact .inr ⟨h1, by rw [List.getElem?_set_ne h1]; exact h2⟩
  have hso : (∀ ds, s ≠ .own ds) ∧ (∀ t ds, s ≠ .ownN t ds) := by
    rcases hs with rfl | ⟨_, rfl, _⟩ <;> exact ⟨fun _ z => (by cases z), fun _ _ z => (by cases z)⟩
  have ownk : ∀ {j q'}, OwnS (env.set i s) σ j q' → OwnS (env.set i .no) σ j q' := fun {j q'} ⟨q1, q2⟩ => by
    refine ⟨q1, ?_⟩
    rcases q2 with ⟨ds, q2⟩ | ⟨t, ds, q2⟩
    · rcases back q2 with ⟨_, z⟩ | ⟨_, z⟩
      · exact absurd z (hso.1 ds)
      · exact .inl ⟨ds, z⟩
    · rcases back q2 with ⟨_, z⟩ | ⟨_, z⟩
      · exact absurd z (hso.2 t ds)
      · exact .inr ⟨t, ds, z⟩
  have nown : ∀ {j q'}, OwnS (env.set i .no) σ j q' → q' ≠ q := fun {j q'} hq z => by
    have := (mo.own j q' hq).1
    rw [z, a2] at this; cases this
  have fr : ∀ {j : Nat} {z : Sl}, i ≠ j → (env.set i .no)[j]? = some z → tabFree ep z = true := fun {j z} ne h => by
    rw [List.getElem?_set_ne ne] at h
    exact free_get hfree h ne
  have M : Mes K H0 (env.set i s) σ F (upd H q (.lst vs)) Φ c := by
    refine ⟨fun a e n t hq => ?_, fun j q' hq => ?_, fun j k q' q1 q2 => mo.sep j k q' (ownk q1) (ownk q2), fun j e c' t d hj => ?_, fun j a ws e c' n t hj => ?_, fun j t ds hj => ?_, fun j e c' n m' dss' hj => ?_, TrF.none fun j v t hj => by
      rcases get_set_cases hj with ⟨_, _, q⟩ | ⟨ne, q⟩
      · rcases hs with z | ⟨_, z, _⟩ <;> (rw [z] at q; cases q)
      · have := free_get hfree q ne; cases this⟩
    · obtain ⟨s1, s2, s3, ws, s4, s5, s6⟩ := mo.reg a e n t hq
      by_cases haq : a = q
      · subst haq
        rw [a2] at hq; cases hq
        rw [a3] at s4; cases s4
        exact ⟨s1, fun z => absurd z hep, s3, vs, upd_same, by rw [hl]; exact s5, hv⟩
      · exact ⟨s1, s2, s3, ws, by rw [upd_ne haq]; exact s4, s5, s6⟩
    · obtain ⟨s1, s2, s3, ws, s4⟩ := mo.own j q' (ownk hq)
      exact ⟨s1, s2, s3, ws, by rw [upd_ne (nown (ownk hq))]; exact s4⟩
    · rcases back hj with ⟨_, z⟩ | ⟨ne, z⟩
      · rcases hs with rfl | ⟨_, rfl, _⟩ <;> cases z
      · have := fr ne z; cases this
    · rcases back hj with ⟨_, z⟩ | ⟨ne, z⟩
      · rcases hs with rfl | ⟨_, rfl, _⟩ <;> cases z
      · have := fr ne z; cases this
    · rcases back hj with ⟨_, z⟩ | ⟨ne, z⟩
      · exact absurd z (hso.2 t ds)
      · obtain ⟨p', ws, s1, s2, s3, s4⟩ := mo.ownN j t ds z
        exact ⟨p', ws, s1, by rw [upd_ne (nown ⟨s1, .inr ⟨t, ds, z⟩⟩)]; exact s2, s3, s4⟩
    · rcases back hj with ⟨z0, z⟩ | ⟨ne, z⟩
      · subst z0
        rcases hs with rfl | ⟨dss, rfl, ht⟩
        · cases z
        · cases z
          refine ⟨rfl, hep, q, vs, a1, a2, upd_same, ht.1, ht.2.1, fun k ds hk => ?_⟩
          obtain ⟨p, ws, t1, t2, t3, t4⟩ := ht.2.2 k ds hk
          exact ⟨p, ws, t1, t2, by rw [upd_ne (fun z => by rw [z, a2] at t2; cases t2)]; exact t3, t4⟩
      · have hfr := fr ne z
        obtain ⟨s1, s0, q', vs', s2, s3, s4, s5⟩ := mo.tab j _ _ _ _ _ z
        have hee : e ≠ ep := fun y => by subst y; simp [tabFree] at hfr
        have nq : ∀ a n t, Φ a = some (e, n, t) → a ≠ q := fun a n t z y => by
          rw [y, a2] at z; cases z; exact hee rfl
        exact ⟨s1, s0, q', vs', s2, s3, by rw [upd_ne (nq _ _ _ s3)]; exact s4, s5.up (Ex.refl _) (fun p' z => z) (fun p' ws z z2 => by rw [upd_ne (nq _ _ _ z)]; exact z2)⟩
  refine ⟨ok.putT (r3 hep) r1 a3 (fun j es hj z => ?_) (fun j z hj => ?_) (by rw [List.length_set, List.length_set]) ⟨Φ, c, M⟩, M⟩
  · exact nown (ownk ⟨z, .inl ⟨es, hj⟩⟩) rfl
  · rcases back hj with ⟨_, w⟩ | ⟨_, w⟩
    · subst w
      rcases hs with rfl | ⟨_, rfl, _⟩
      · exact .inr (.inl rfl)
      · exact .inl trivial
    · exact .inr (.inr w)
theorem swp_get {α : Type} {l : List α} {a b : Nat} {u v : α} (ha : l[a]? = some u) (hb : l[b]? = some v) (k : Nat) : ((l.set a v).set b u)[k]? = l[if k = b then a else if k = a then b else k]? := by
  have la := (List.getElem?_eq_some_iff.mp ha).1
  have lb := (List.getElem?_eq_some_iff.mp hb).1
  by_cases e : k = b
  · subst e
    rw [if_pos rfl, List.getElem?_set_self (by rw [List.length_set]; exact lb), ha]
  · rw [if_neg e, List.getElem?_set_ne (Ne.symm e)]
    by_cases e2 : k = a
    · subst e2
      rw [if_pos rfl, List.getElem?_set_self la, hb]
    · rw [if_neg e2, List.getElem?_set_ne (Ne.symm e2)]
theorem tab_swp {F H : Hp} {Φ : Reg} {ep : Nat} {vs : List V} {dss : List (List PyData)} {a b : Nat} {u v : V} {du dv : List PyData} (t : TabAt K F H Φ ep m vs dss) (ha : vs[a]? = some u) (hb : vs[b]? = some v) (ea : dss[a]? = some du) (eb : dss[b]? = some dv) : TabAt K F H Φ ep m ((vs.set a v).set b u) ((dss.set a dv).set b du) := by
  obtain ⟨n1, n2, n3⟩ := t
  refine ⟨nodup_of_inj fun i j w hi hj => ?_, by simp [n2], fun k ds hk => ?_⟩
  · rw [swp_get ha hb] at hi hj
    have := nodup_inj n1 hi hj
    split at this <;> split at this <;> (try split at this) <;> (try split at this) <;> omega
  · rw [swp_get ea eb] at hk
    obtain ⟨p, ws, t1, t2⟩ := n3 _ ds hk
    exact ⟨p, ws, by rw [swp_get ha hb]; exact t1, t2⟩
/-- t[i], t[j] = t[k], t[l] with k = j, l = i -/
theorem s_tabSwap {α : Type} {enc : α → PyData} {zss : List (List α)} {ep nn : Nat} {j1 j2 : Int} {k1 k2 : Nat} (i : Nat) (hi : X.N[i]? = some x) (hv : Vis X.env.scope x) (ho : env[i]? = some (.tab ep c nn m (zss.map (·.map enc)))) (hb1 : PE X b1 (tE X.K true env (.int j2))) (hb2 : PE X b2 (tE X.K true env (.int j1))) (hb3 : PE X b3 (tE X.K true env (.int j1))) (hb4 : PE X b4 (tE X.K true (env.set i .no) (.int j2)))
    (h1 : 0 ≤ j1 ∧ j1 < (zss.length : Int)) (h2 : 0 ≤ j2 ∧ j2 < (zss.length : Int)) (hfree : (env.set i .no).all (tabFree ep) = true) (h : E.nx (env.set i (.tab ep c nn m (((zss.set j1.toNat (zss.getD j2.toNat [])).set j2.toNat (zss.getD j1.toNat [])).map (·.map enc)))))
    (hs1 : PlainIx b1 := by exact fun _ _ => rfl) (hs2 : PlainIx b2 := by exact fun _ _ => rfl) (hd : (x == ("__debug__" : Str)) = false := by decide) (hcd : (x == ("__classdict__" : Str)) = false := by decide)
    (hcalm : X.calm = true := by rfl) (na : NS X (.Subscript (.Name x p1) b1 p2) := by exact fun _ => rfl) (nb : NS X (.Subscript (.Name x p3) b2 p4) := by exact fun _ => rfl)
    (ha3 : ∀ v, assign (.Subscript (.Name x p5) b3 p6) X.env v = (do
      let ov ← holding [v] (eval (.Name x p5) X.env)
      let iv ← holding [v, ov] (eval b3 X.env)
      standAt p6
      holding [v, ov, iv] (setItem ov iv v)
      release [v, ov, iv] []) := by intro _; rfl)
    (ha4 : ∀ v, assign (.Subscript (.Name x p7) b4 p8) X.env v = (do
      let ov ← holding [v] (eval (.Name x p7) X.env)
      let iv ← holding [v, ov] (eval b4 X.env)
      standAt p8
      holding [v, ov, iv] (setItem ov iv v)
      release [v, ov, iv] []) := by intro _; rfl)
    (hs : swapsWithSole [.Tuple [.Subscript (.Name x p5) b3 p6, .Subscript (.Name x p7) b4 p8] k2 p9] (.Tuple [.Subscript (.Name x p1) b1 p2, .Subscript (.Name x p3) b2 p4] k1 pos') pos.line X.env = pure false := by rfl) (hw : swappedStores [.Tuple [.Subscript (.Name x p5) b3 p6, .Subscript (.Name x p7) b4 p8] k2 p9] (.Tuple [.Subscript (.Name x p1) b1 p2, .Subscript (.Name x p3) b2 p4] k1 pos') X.env = pure none := by rfl) :
    PS X (.Assign [.Tuple [.Subscript (.Name x p5) b3 p6, .Subscript (.Name x p7) b4 p8] k2 p9] (.Tuple [.Subscript (.Name x p1) b1 p2, .Subscript (.Name x p3) b2 p4] k1 pos') pos) (tS X.K env E) :=
  psmono (ps_asg (pe_tup (pa_cons (pe_ix ix_list (pe_var hi hv hd hcd) hb1 hs1) (pa_cons (pe_ix ix_list (pe_var hi hv hd hcd) hb2 hs2) pa_nil (nb [])) (na [_]))) (pg_tup hcalm (pgs_cons (pg_sub (pe_var hi hv hd hcd) hb3 set_list ha3) (pgs_cons (pg_sub (pe_var hi hv hd hcd) hb4 set_list ha4) pgs_nil))) hs hw) fun D σ H ⟨F0, H0, F, ok, nx, _⟩ => by
    obtain ⟨Φ, c0, mo⟩ := ok.tre
    obtain ⟨hc, hep, qq, vs, t1, t2, t3, t4⟩ := mo.tab i _ _ _ _ _ ho
    subst hc
    have hj : ∀ j : Int, 0 ≤ j ∧ j < (zss.length : Int) → ∃ p, ixN vs.length j = some j.toNat ∧ L2.atI vs j = some (.ref p) ∧ vs[j.toNat]? = some (.ref p) ∧ (zss.map (·.map enc))[j.toNat]? = some ((zss.getD j.toNat []).map enc) ∧ Φ p = some (ep, m, .any) := fun j hj => by
      have hlt : j.toNat < zss.length := by omega
      have e1 : (zss.map (·.map enc))[j.toNat]? = some ((zss.getD j.toNat []).map enc) := by
        rw [List.getElem?_map, List.getD_eq_getElem?_getD, List.getElem?_eq_getElem hlt]; rfl
      obtain ⟨p, ws, a1, a2, _⟩ := t4.2.2 _ _ e1
      have ei : ixN vs.length j = some j.toNat := by unfold ixN; rw [if_pos hj.1, if_pos (by rw [t4.2.1, List.length_map]; exact hj.2)]
      exact ⟨p, ei, by unfold L2.atI; rw [ei]; exact a1, a1, e1, a2⟩
    obtain ⟨q1, x1, v1, y1, w1, f1⟩ := hj j1 h1
    obtain ⟨q2, x2, v2, y2, w2, f2⟩ := hj j2 h2
    obtain ⟨_, _, _, us, u1, u2, u3⟩ := mo.reg qq _ _ _ t2
    rw [t3] at u1; cases u1
    have mem1 : ∀ w ∈ vs.set j1.toNat (.ref q2), VT X.K F Φ ep (.L m .any) w := fun w hw => by
      rcases List.mem_or_eq_of_mem_set hw with hw | rfl
      · exact u3 w hw
      · exact ⟨q2, rfl, f2⟩
    have mem2 : ∀ w ∈ (vs.set j1.toNat (.ref q2)).set j2.toNat (.ref q1), VT X.K F Φ ep (.L m .any) w := fun w hw => by
      rcases List.mem_or_eq_of_mem_set hw with hw | rfl
      · exact mem1 w hw
      · exact ⟨q1, rfl, f1⟩
    refine ⟨.ref qq, t1, F0, H0, F, ok, fun w F1 H1 g1 z1 => ?_⟩
    cases (show Dq X.K F1 w (.int j2) from z1)
    refine ⟨qq, vs, j2, .ref q2, rfl, rfl, sqOf (g1.hh _ _ t3), v2, ?_⟩
    refine ⟨.ref qq, t1, F0, H0, F1, ok.grow g1, fun w F2 H2 g2 z2 => ?_⟩
    cases (show Dq X.K F2 w (.int j1) from z2)
    refine ⟨qq, vs, j1, .ref q1, rfl, rfl, sqOf (g2.hh _ _ (g1.hh _ _ t3)), v1, ?_⟩
    refine ⟨by show 2 ≤ sizeLine; rw [sizeLine_eq]; omega, fun Dd hD => ?_⟩
    have ok2 := (ok.grow g1).grow g2
    have g3 : Grow F2 H2 F2 (upd H2 Dd (.tup [.ref q2, .ref q1])) := Grow.junk ok2.g.fh (Ex.new hD)
    refine ⟨_, _, rfl, .inl (.inl upd_same), rfl, _, _, rfl, ?_⟩
    refine ⟨.ref qq, t1, F0, H0, F2, ok2.grow g3, fun w F4 H4 g4 z4 => ?_⟩
    cases (show Dq X.K F4 w (.int j1) from z4)
    have g := ((g1.trans g2).trans g3).trans g4
    refine ⟨qq, vs, j1, j1.toNat, rfl, rfl, g.hh _ _ t3, x1, _, _, rfl, ?_⟩
    have o4 := ok.grow g
    have m4 : Mes X.K H0 (env.set i .no) σ F4 H4 Φ c := (mo.grow g ok.g.fh ok.g.hh).setE trivial
    obtain ⟨o5, m5⟩ := (o4.forget i).tabOut m4 hep hfree t1 t2 (g.hh _ _ t3) (vs := vs.set j1.toNat (.ref q2)) (by rw [List.length_set]) (fun w hw => VT.up g.ff (fun _ _ z => z) _ _ (mem1 w hw)) (.inl rfl)
    refine ⟨.ref qq, t1, F0, H0, F4, o5, fun w F6 H6 g6 z6 => ?_⟩
    cases (show Dq X.K F6 w (.int j2) from z6)
    have m6 := m5.grow g6 o5.g.fh o5.g.hh
    have o6 := o5.grow g6
    have tb6 : TabAt X.K F6 H6 Φ ep m vs (zss.map (·.map enc)) := t4.up (g.ff.trans g6.ff) (fun _ z => z) fun p ws z z2 => g6.hh _ _ (by rw [upd_ne (fun y => by rw [y, t2] at z; cases z)]; exact g.hh _ _ z2)
    obtain ⟨o7, _⟩ := o6.tabOut m6 hep hfree t1 t2 (g6.hh _ _ upd_same) (vs := (vs.set j1.toNat (.ref q2)).set j2.toNat (.ref q1)) (by rw [List.length_set]) (fun w hw => VT.up (g.ff.trans g6.ff) (fun _ _ z => z) _ _ (mem2 w hw)) (.inr ⟨_, rfl, tab_swp tb6 y1 y2 w1 w2⟩)
    rw [List.map_set, List.map_set] at h
    exact ⟨qq, _, j2, j2.toNat, rfl, rfl, g6.hh _ _ upd_same, by rw [List.length_set]; exact x2, rfl, nx _ _ _ _ h o7⟩
/-- t[k] = e, e a new list -/
theorem s_tabNew {α : Type} {enc : α → PyData} {zss : List (List α)} {zs : List α} {ep nn : Nat} {j1 : Int} (i : Nat) (hi : X.N[i]? = some x) (hv : Vis X.env.scope x) (ho : env[i]? = some (.tab ep c nn m (zss.map (·.map enc)))) (he : PE X e (tO X.K env (zs.map enc)))
    (hb1 : PE X b (tE X.K true env (.int j1))) (hj1 : 0 ≤ j1 ∧ j1 < (zss.length : Int)) (hm : zs.length ≤ m) (hfree : (env.set i .no).all (tabFree ep) = true) (h : E.nx (env.set i (.tab ep c nn m ((zss.set j1.toNat zs).map (·.map enc)))))
    (hd : (x == ("__debug__" : Str)) = false := by decide) (hcd : (x == ("__classdict__" : Str)) = false := by decide)
    (ha : ∀ v, assign (.Subscript (.Name x p1) b p2) X.env v = (do
      let ov ← holding [v] (eval (.Name x p1) X.env)
      let iv ← holding [v, ov] (eval b X.env)
      standAt p2
      holding [v, ov, iv] (setItem ov iv v)
      release [v, ov, iv] []) := by intro _; rfl)
    (hs : swapsWithSole [.Subscript (.Name x p1) b p2] e pos.line X.env = pure false := by rfl) (hw : swappedStores [.Subscript (.Name x p1) b p2] e X.env = pure none := by rfl) : PS X (.Assign [.Subscript (.Name x p1) b p2] e pos) (tS X.K env E) :=
  psmono (ps_asg he (pg_sub (pe_var hi hv hd hcd) hb1 set_list ha) hs hw) fun D σ H ⟨F0, H0, F, ok, nx, _⟩ => ⟨F0, H0, F, ok, fun p ws F1 H1 g1 hp hp1 hw hds => by
    obtain ⟨Φ, c0, mo⟩ := ok.tre
    obtain ⟨hc, hep, qq, vs, h1, h2, h3, h4⟩ := mo.tab i _ _ _ _ _ ho
    subst hc
    refine ⟨.ref qq, h1, F0, H0, F1, ok.grow g1, fun w F2 H2 g2 x2 => ?_⟩
    cases (show Dq X.K F2 w (.int j1) from x2)
    have g := g1.trans g2
    have ok2 := ok.grow g
    have mo2 := mo.grow g ok.g.fh ok.g.hh
    have nos : ∀ l, ¬ OwnS env σ l p := fun l hl => by
      obtain ⟨_, _, _, us, w⟩ := mo.own l p hl
      rw [hp] at w; cases w
    obtain ⟨q, us, e1, e2, e3, e4⟩ := ok2.tabSet (k := j1.toNat) mo2 ho hfree (g2.old p hp1 (by rw [hw]; simp)) (ok.g.hh.back hp) (g2.hh _ _ hw) (hds.up g2.ff) (by rw [List.length_map]; exact hm) nos (mo.free hp) (by rw [List.length_map]; omega)
    rw [h1] at e1; cases e1
    refine ⟨qq, us, j1, j1.toNat, rfl, rfl, e2, ?_, nx _ _ F2 _ ?_ e4⟩
    · unfold ixN
      rw [if_pos hj1.1, if_pos (by rw [e3, List.length_map]; exact hj1.2)]
    · rw [List.map_set] at h
      exact h⟩
/-! ### every row of a table is written -/
theorem Ok.tabPut {F0 H0 F H : Hp} {σ : L2.St} {Φ : Reg} {ep nn i k : Nat} {p qq : Addr} {vs ws us : List V} {dss : List (List PyData)} {es : List PyData} (o3 : Ok K F0 H0 env σ F H) (m3 : Mes K H0 env σ F H Φ c) (ho : env[i]? = some (.tab ep c nn m dss)) (hep : ep ≠ 0) (hfree : (env.set i .no).all (tabFree ep) = true)
    (h1 : σ[i]? = some (some (.ref qq))) (h2 : Φ qq = some (ep, nn, .L m .any)) (h3 : H qq = some (.lst vs)) (h4 : TabAt K F H Φ ep m vs dss) (ai : vs[k]? = some (.ref p)) (a2 : Φ p = some (ep, m, .any)) (a3 : H p = some (.lst ws)) (hl : us.length = ws.length) (hz : DqAll K F us es) :
    Ok K F0 H0 (env.set i (.tab ep c nn m (dss.set k es))) σ F (upd H p (.lst us)) ∧ Mes K H0 (env.set i (.tab ep c nn m (dss.set k es))) σ F (upd H p (.lst us)) Φ c ∧ upd H p (.lst us) qq = some (.lst vs) ∧ TabAt K F (upd H p (.lst us)) Φ ep m vs (dss.set k es) := by
  obtain ⟨r1, _, r3, us', r4, r5, _⟩ := m3.reg p _ _ _ a2
  rw [a3] at r4; cases r4
  have nown : ∀ j q, OwnS env σ j q → q ≠ p := fun j q hq z => by
    have := (m3.own j q hq).1
    rw [z, a2] at this; cases this
  have ownk : ∀ {zz : List (List PyData)} j q, OwnS (env.set i (.tab ep c nn m zz)) σ j q → OwnS env σ j q := fun {zz} j q ⟨q1, q2⟩ => by
    refine ⟨q1, ?_⟩
    rcases q2 with ⟨ds, q2⟩ | ⟨t, ds, q2⟩
    · rcases get_set_cases q2 with ⟨_, _, q⟩ | ⟨_, q⟩
      · cases q
      · exact .inl ⟨ds, q⟩
    · rcases get_set_cases q2 with ⟨_, _, q⟩ | ⟨_, q⟩
      · cases q
      · exact .inr ⟨t, ds, q⟩
  have hqp : qq ≠ p := fun z => by rw [z, a2] at h2; cases h2
  have hq3 : upd H p (.lst us) qq = some (.lst vs) := by rw [upd_ne hqp]; exact h3
  obtain ⟨n1, n2, n3⟩ := h4
  have kl : k < dss.length := by rw [← n2]; exact (List.getElem?_eq_some_iff.mp ai).1
  have T : TabAt K F (upd H p (.lst us)) Φ ep m vs (dss.set k es) := by
    refine ⟨n1, by rw [n2]; simp, fun l ds hk => ?_⟩
    by_cases hkj : k = l
    · subst hkj
      rw [List.getElem?_set_self kl] at hk
      cases hk
      exact ⟨p, us, ai, a2, upd_same, hz⟩
    · rw [List.getElem?_set_ne hkj] at hk
      obtain ⟨p', us, t1, t2, t3, t4⟩ := n3 l ds hk
      have hpp : p' ≠ p := fun y => by
        subst y
        exact hkj (nodup_inj n1 ai t1)
      exact ⟨p', us, t1, t2, by rw [upd_ne hpp]; exact t3, t4⟩
  have M : Mes K H0 (env.set i (.tab ep c nn m (dss.set k es))) σ F (upd H p (.lst us)) Φ c := by
    refine ⟨fun a e n t hq => ?_, fun j q hq => ?_, fun j k q q1 q2 => m3.sep j k q (ownk j q q1) (ownk k q q2), fun j e c' t d hj => ?_, fun j a vs e c' n t hj => ?_, fun j t ds hj => ?_, fun j e c' n m' dss' hj => ?_, TrF.none fun j v t hj => by
      rcases get_set_cases hj with ⟨_, _, q⟩ | ⟨ne, q⟩
      · cases q
      · have := free_get hfree q ne; cases this⟩
    · obtain ⟨s1, s2, s3, us2, s4, s5, s6⟩ := m3.reg a e n t hq
      by_cases hap : a = p
      · subst hap
        rw [a2] at hq; cases hq
        exact ⟨s1, fun z => absurd z hep, s3, us, upd_same, by rw [hl]; exact r5, fun _ _ => trivial⟩
      · exact ⟨s1, s2, s3, us2, by rw [upd_ne hap]; exact s4, s5, s6⟩
    · obtain ⟨s1, s2, s3, us, s4⟩ := m3.own j q (ownk j q hq)
      exact ⟨s1, s2, s3, us, by rw [upd_ne (nown j q (ownk j q hq))]; exact s4⟩
    · rcases get_set_cases hj with ⟨_, _, q⟩ | ⟨ne, q⟩
      · cases q
      · have := free_get hfree q ne; cases this
    · rcases get_set_cases hj with ⟨_, _, q⟩ | ⟨ne, q⟩
      · cases q
      · have := free_get hfree q ne; cases this
    · rcases get_set_cases hj with ⟨_, _, q⟩ | ⟨ne, q⟩
      · cases q
      · obtain ⟨p', us, s1, s2, s3, s4⟩ := m3.ownN j t ds q
        exact ⟨p', us, s1, by rw [upd_ne (nown j p' ⟨s1, .inr ⟨t, ds, q⟩⟩)]; exact s2, s3, s4⟩
    · rcases get_set_cases hj with ⟨z0, _, q⟩ | ⟨ne, q⟩
      · subst z0
        cases q
        exact ⟨rfl, hep, qq, vs, h1, h2, hq3, T⟩
      · have hfr := free_get hfree q ne
        obtain ⟨s1, s0, q', vs', s2, s3, s4, s5⟩ := m3.tab j _ _ _ _ _ q
        have hee : e ≠ ep := fun y => by subst y; simp [tabFree] at hfr
        have nq : ∀ a n t, Φ a = some (e, n, t) → a ≠ p := fun a n t z y => by
          rw [y, a2] at z; cases z; exact hee rfl
        exact ⟨s1, s0, q', vs', s2, s3, by rw [upd_ne (nq _ _ _ s3)]; exact s4, s5.up (Ex.refl _) (fun _ z => z) (fun p ws z z2 => by rw [upd_ne (nq _ _ _ z)]; exact z2)⟩
  refine ⟨o3.putT (r3 hep) r1 a3 (fun j es hj z => ?_) (fun j s hj => ?_) (by rw [List.length_set]) ⟨Φ, c, M⟩, M, hq3, T⟩
  · exact nown j p (ownk j p ⟨z, .inl ⟨es, hj⟩⟩) rfl
  · rcases get_set_cases hj with ⟨_, _, q⟩ | ⟨_, q⟩
    · subst q; exact .inl trivial
    · exact .inr (.inr q)
/-- the rows up to k written -/
def rowsTo {α : Type} (f : List α → List α) (zss : List (List α)) (k : Nat) : List (List α) := (zss.take k).map f ++ zss.drop k
theorem rowsTo_zero {α : Type} (f : List α → List α) (zss : List (List α)) : rowsTo f zss 0 = zss := by simp [rowsTo]
theorem rowsTo_all {α : Type} (f : List α → List α) (zss : List (List α)) : rowsTo f zss zss.length = zss.map f := by simp [rowsTo]
theorem rowsTo_len {α : Type} (f : List α → List α) (zss : List (List α)) (k : Nat) (hk : k ≤ zss.length) : (rowsTo f zss k).length = zss.length := by simp [rowsTo]; omega
theorem rowsTo_at {α : Type} (f : List α → List α) {zss : List (List α)} {k : Nat} {r : List α} (h : zss[k]? = some r) : (rowsTo f zss k)[k]? = some r := by
  have hk := (List.getElem?_eq_some_iff.mp h).1
  unfold rowsTo
  rw [List.getElem?_append_right (by simp; omega)]
  simp [Nat.min_eq_left (Nat.le_of_lt hk)]
  exact h
theorem rowsTo_succ {α : Type} (f : List α → List α) {zss : List (List α)} {k : Nat} {r : List α} (h : zss[k]? = some r) : rowsTo f zss (k + 1) = (rowsTo f zss k).set k (f r) := by
  have hk := (List.getElem?_eq_some_iff.mp h).1
  have hr : zss[k] = r := (List.getElem?_eq_some_iff.mp h).2
  unfold rowsTo
  have hd : zss.drop k = r :: zss.drop (k + 1) := by rw [← hr]; exact List.drop_eq_getElem_cons hk
  have hl : ((zss.take k).map f).length = k := by simp; omega
  rw [hd, List.set_append_right _ _ (by omega), hl, Nat.sub_self, List.set_cons_zero, List.take_add_one, h]
  simp
/-- for row in t: row[j] = e -/
theorem c_forRow {α : Type} {enc : α → PyData} {zss : List (List α)} {ep nn : Nat} {jj : Int} {g : List α → α} (i j : Nat) (hp : PassesOwn (model X.prog X.w) X.A X.env X.xe) (hN : X.N.Nodup) (hi : X.N[i]? = some x) (hv : Vis X.env.scope x) (hj : X.N[j]? = some y) (hvj : Vis X.env.scope y)
    (ho : env[i]? = some (.tab ep c nn m (zss.map (·.map enc)))) (hij : i ≠ j) (hjl : j < env.length) (hfree : (env.set i .no).all (tabFree ep) = true) (hsc : ∀ r ∈ zss, scalD (enc (g r)) = true)
    (he : ∀ r ∈ zss, PE X e (tE X.K true (((env.map softS).set i .no).set j (.dat (eL enc r))) (enc (g r)))) (hb : ∀ r ∈ zss, PE X b (tE X.K true (((env.map softS).set i .no).set j (.dat (eL enc r))) (.int jj))) (hjj : ∀ r ∈ zss, 0 ≤ jj ∧ jj < (r.length : Int))
    (h : E.nx ((env.set i (.tab ep c nn m ((zss.map fun r => r.set jj.toNat (g r)).map (·.map enc)))).set j .no))
    (hd : (x == ("__debug__" : Str)) = false := by decide) (hcd : (x == ("__classdict__" : Str)) = false := by decide) (hdj : (y == ("__debug__" : Str)) = false := by decide) (hcdj : (y == ("__classdict__" : Str)) = false := by decide)
    (hx : Loc X.env.scope y := by first | exact .inl rfl | exact .inr rfl) (hf : X.fn y = true ∨ X.env.scope.names.lookup y = some .local := by first | exact .inl rfl | exact .inr rfl)
    (hc : X.calm = true := by rfl) (hs : ∀ z, foldedSetIterable (.Name x p1) X.env z = pure z := by intro _; rfl)
    (ha : ∀ v, assign (.Subscript (.Name y p3) b p4) X.env v = (do
      let ov ← holding [v] (eval (.Name y p3) X.env)
      let iv ← holding [v, ov] (eval b X.env)
      standAt p4
      holding [v, ov, iv] (setItem ov iv v)
      release [v, ov, iv] []) := by intro _; rfl)
    (hs1 : swapsWithSole [.Subscript (.Name y p3) b p4] e p5.line X.env = pure false := by rfl) (hw : swappedStores [.Subscript (.Name y p3) b p4] e X.env = pure none := by rfl) :
    PS X (.For (.Name y p2) (.Name x p1) [.Assign [.Subscript (.Name y p3) b p4] e p5] [] pos) (tS X.K env E) :=
  psmono (ps_for hp hc (pi_list (pe_var hi hv hd hcd)) (pg_name hN hj hx hf) (pss_one (ps_asg (te := fun σ H Q => ∃ r, r ∈ zss ∧ tE X.K true (((env.map softS).set i .no).set j (.dat (eL enc r))) (enc (g r)) σ H Q) ⟨fun pins s σ H Q I ⟨r, hr, q⟩ => (he r hr).run pins s σ H Q I q⟩
    (pg_sub (pe_var hj hvj hdj hcdj) (ti := fun σ H Q => ∃ r, r ∈ zss ∧ tE X.K true (((env.map softS).set i .no).set j (.dat (eL enc r))) (.int jj) σ H Q) ⟨fun pins s σ H Q I ⟨r, hr, q⟩ => (hb r hr).run pins s σ H Q I q⟩ set_list ha) hs1 hw)) hs) fun D σ H ⟨F0, H0, F, ok, nx, bk, ct, rt⟩ => by
    obtain ⟨Φ, c0, mo⟩ := ok.tre
    obtain ⟨hcc, hep, q, vs, t1, t2, t3, t4⟩ := mo.tab i _ _ _ _ _ ho
    subst hcc
    let f : List α → List α := fun r => r.set jj.toNat (g r)
    let T : Nat → List Sl := fun k => (env.set i (.tab ep c nn m ((rowsTo f zss k).map (·.map enc)))).set j .no
    have hil : i < env.length := (List.getElem?_eq_some_iff.mp ho).1
    have Ti : ∀ k, (T k)[i]? = some (.tab ep c nn m ((rowsTo f zss k).map (·.map enc))) := fun k => by
      show ((env.set i _).set j _)[i]? = _
      rw [List.getElem?_set_ne (Ne.symm hij), List.getElem?_set_self hil]
    have Tj : ∀ k, (T k).set j .no = T k := fun k => by show ((env.set i _).set j _).set j _ = _; rw [List.set_set]
    have Tf : ∀ k, ((T k).set i .no).all (tabFree ep) = true := fun k => by
      show (((env.set i _).set j .no).set i .no).all _ = true
      rw [List.set_comm _ _ (Ne.symm hij), List.set_set]
      rw [List.all_eq_true] at hfree ⊢
      intro s hs
      rcases List.mem_or_eq_of_mem_set hs with hs | rfl
      · exact hfree s hs
      · rfl
    have Tr : ∀ k r, (((T k).map softS).set i .no).set j (.dat (eL enc r)) = ((env.map softS).set i .no).set j (.dat (eL enc r)) := fun k r => by
      show ((((env.set i _).set j _).map softS).set i .no).set j _ = _
      rw [List.map_set, List.map_set, List.set_comm _ _ (Ne.symm hij), List.set_set, List.set_set]
    have hvl : vs.length = zss.length := by rw [t4.2.1, List.length_map]
    have e0 : T 0 = env.set j .no := by
      show (env.set i (.tab ep c nn m ((rowsTo f zss 0).map (·.map enc)))).set j .no = _
      rw [rowsTo_zero]
      congr 1
      obtain ⟨z1, z2⟩ := List.getElem?_eq_some_iff.mp ho
      rw [← z2, List.set_getElem_self]
    refine ⟨.ref q, t1, q, rfl, ⟨vs, sqOf t3⟩, ?_⟩
    have it := iter_of (K := X.K) (a := q)
    refine ⟨fun k r σ' H' => k ≤ vs.length ∧ r = vs.length - k ∧ ∃ F', Ok X.K F0 H0 (T k) σ' F' H' ∧ Mes X.K H0 (T k) σ' F' H' Φ c ∧ σ'[i]? = some (some (.ref q)) ∧ H' q = some (.lst vs) ∧ TabAt X.K F' H' Φ ep m vs ((rowsTo f zss k).map (·.map enc)), ⟨vs.length, Nat.zero_le _, rfl, F, ?_⟩, ?_⟩
    · rw [e0, rowsTo_zero]
      exact ⟨ok.forget j, mo.setE trivial, t1, t3, t4⟩
    rintro k r σ' H' ⟨hle, rfl, F', ok', m', s1, hH, tt⟩
    by_cases hlt : k < vs.length
    · have hkz : k < zss.length := by omega
      have hr : zss[k]? = some zss[k] := List.getElem?_eq_getElem hkz
      have hmem : zss[k] ∈ zss := List.getElem_mem hkz
      refine .inr ⟨it.go k H' vs hH hlt, fun σ2 H2 => ∃ F2, Ok X.K F0 H0 (T (k + 1)) σ2 F2 H2 ∧ Mes X.K H0 (T (k + 1)) σ2 F2 H2 Φ c ∧ σ2[i]? = some (some (.ref q)) ∧ H2 q = some (.lst vs) ∧ TabAt X.K F2 H2 Φ ep m vs ((rowsTo f zss (k + 1)).map (·.map enc)), fun σ2 H2 ⟨F2, w⟩ => ⟨vs.length - (k + 1), by omega, hlt, rfl, F2, w⟩, fun v H3 hy => ?_⟩
      obtain ⟨rfl, hv⟩ := it.yld k H' vs v _ hH hy
      obtain ⟨p, ws, a1, a2, a3, a4⟩ := tt.2.2 k (zss[k].map enc) (by rw [List.getElem?_map, rowsTo_at f hr]; rfl)
      rw [hv] at a1; cases a1
      have ok4 : Ok X.K F0 H0 (T k) (σ'.set j (some (.ref p))) F' H3 := by
        have := ok'.setNo (i := j) (x := some (.ref p))
        rwa [Tj] at this
      have m4 : Mes X.K H0 (T k) (σ'.set j (some (.ref p))) F' H3 Φ c := by
        have := m'.setX (i := j) (s := .no) (x := some (.ref p)) trivial
        rwa [Tj] at this
      have hjσ : j < σ'.length := by rw [ok'.len]; show j < ((env.set i _).set j _).length; rw [List.length_set, List.length_set]; exact hjl
      have sj : (σ'.set j (some (V.ref p)))[j]? = some (some (.ref p)) := List.getElem?_set_self hjσ
      have si : (σ'.set j (some (V.ref p)))[i]? = some (some (.ref q)) := by rw [List.getElem?_set_ne (Ne.symm hij)]; exact s1
      obtain ⟨Fs, okS, xs, fS⟩ := ok4.soft m4
      have okR : Ok X.K F0 H0 (((env.map softS).set i .no).set j (.dat (eL enc zss[k]))) (σ'.set j (some (.ref p))) Fs H3 := by
        have := (okS.forget i).setDat (i := j) (v := .ref p) (d := eL enc zss[k]) (.lst (by rw [fS p _ a2]; exact a3) (a4.up xs))
        rwa [Tr, List.set_set] at this
      refine ⟨zss[k], hmem, F0, H0, Fs, okR, fun v1 F1 H1 g1 x1 => ?_⟩
      refine ⟨.ref p, sj, zss[k], hmem, F0, H0, F1, okR.grow g1, fun w F2 H2 g2 x2 => ?_⟩
      cases (show Dq X.K F2 w (.int jj) from x2)
      have G : Grow F' H3 F' H2 := Grow.junk ok4.g.fh (g1.hh.trans g2.hh)
      have ok6 := ok4.grow G
      have m6 := m4.grow G ok4.g.fh ok4.g.hh
      have tt6 : TabAt X.K F' H2 Φ ep m vs ((rowsTo f zss k).map (·.map enc)) := tt.up (Ex.refl _) (fun _ z => z) fun _ _ _ z => G.hh _ _ z
      have wl : ws.length = zss[k].length := by rw [a4.length, List.length_map]
      have hjk := hjj _ hmem
      obtain ⟨b1, b2, b3, b4⟩ := ok6.tabPut m6 (Ti k) hep (Tf k) si t2 (G.hh _ _ hH) tt6 hv a2 (G.hh _ _ a3) (us := ws.set jj.toNat v1) (es := (f zss[k]).map enc) (by rw [List.length_set]) (by
        show DqAll _ _ _ ((zss[k].set jj.toNat (g zss[k])).map enc)
        rw [List.map_set]
        exact DqAll.set ((show Dq X.K F1 v1 (enc (g zss[k])) from x1).scal (hsc _ hmem)) jj.toNat a4)
      have e1 : (T k).set i (.tab ep c nn m (((rowsTo f zss k).map (·.map enc)).set k ((f zss[k]).map enc))) = T (k + 1) := by
        show ((env.set i _).set j _).set i _ = (env.set i _).set j _
        rw [List.set_comm _ _ (Ne.symm hij), List.set_set, rowsTo_succ f hr]
        conv => rhs; rw [List.map_set]
      have e2 : ((rowsTo f zss k).map (·.map enc)).set k ((f zss[k]).map enc) = (rowsTo f zss (k + 1)).map (·.map enc) := by
        rw [rowsTo_succ f hr]
        conv => rhs; rw [List.map_set]
      rw [e1] at b1 b2
      rw [e2] at b4
      refine ⟨p, ws, jj, jj.toNat, rfl, rfl, G.hh _ _ a3, ?_, F', b1, b2, si, b3, b4⟩
      unfold ixN
      rw [if_pos hjk.1, if_pos (by rw [wl]; exact hjk.2)]
    · have e : k = vs.length := by omega
      subst e
      refine .inl ⟨it.stop _ H' vs hH (Nat.le_refl _), nx _ σ' F' H' ?_ ok'⟩
      have : T vs.length = (env.set i (.tab ep c nn m ((zss.map fun r => r.set jj.toNat (g r)).map (·.map enc)))).set j .no := by
        show (env.set i (.tab ep c nn m ((rowsTo f zss vs.length).map (·.map enc)))).set j .no = _
        rw [hvl, rowsTo_all]
      rw [this]
      exact h
end
/-! ### except C as e, C a class of errors by its name -/
section
variable {X : Cx} {K : KF} {env : List Sl} {E : DE} {i : Nat} {body suite : List Stmt} {b₀ : Stmt} {np pos pos' : Pos} {n y : Str} {xs : List Str}
theorem s_tryS {r : Err} (ER : Er X.prog X.w X.K X.mg X.base xs) (hy : y ∈ xs) (hr : ∀ q, r = some q → q.1 = y) (hN : X.N.Nodup) (hi : X.N[i]? = some n)
    (hb : ∀ (W : WX) (pn : List (Addr × Obj)) (xe : Value → Shared → Prop), Takes (X.tr pn xe) W → PassesOwn (model X.prog X.w) X.A X.env xe → PSs (X.tr pn xe) body (tS X.K env ⟨E.nx, fun z => E.rt z ∨ ∃ C d, exOf X.K xs r C d ∧ z = .exc C d (· = env) W, E.bk, E.ct⟩))
    (hsu : ∀ (q : Str × Int) (a dd : Addr) (oe : Obj) (pn : List (Addr × Obj)), r = some q → q.1 ∈ xs → Zc (.ref (He.ga X.K q.1)) (some dd) oe → (∃ vs, oe.data = .fields vs) →
      PSs (X.suite a ((a, oe) :: pn)) (b₀ :: suite) (tS X.K (env.set i (.exc a dd (.int q.2))) ⟨fun e => E.nx (e.set i .no), E.rt, fun e => E.bk (e.set i .no), fun e => E.ct (e.set i .no)⟩))
    (hg : Gl X y := by rfl) (hyd : (y == ("__debug__" : Str)) = false := by decide) (hs : X.stack = X.env :: X.outer := by rfl) (hf : X.env.frame = some X.env.locals := by rfl) (hln : X.env.kindOf n = some .local := by rfl) :
    PS X (.Try body [.ExceptHandler (some (.Name y np)) (some n) (b₀ :: suite) pos'] [] [] pos) (tS X.K env E) := by
  obtain ⟨fI, fd, _, _, _, hC⟩ := ER.ex
  exact s_try (ex := exOf X.K xs r) (ep := (· = env)) (c := .ref (He.ga X.K y)) hN hi ⟨hg, hyd, .inl (hC y hy).hm⟩ (fun C d ⟨q, h1, h2, h3, h4⟩ => by rw [h3, hr q h1]; exact (hC y hy).exs) hb
    (fun C d env' a dd oe pn ⟨q, h1, h2, h3, h4⟩ he hz hf => by subst h3 h4 he; exact hsu q a dd oe pn h1 h2 hz hf) hs hf hln
end
end D3
namespace D3
open PySem PySem.Spec L2 PyProof.Rows
section
variable {X : Cx} {K : KF} {e a b b1 b2 b3 b4 : Expr} {env env' : List Sl} {d : PyData} {ds : List PyData} {pos p1 p2 p3 p4 p5 p6 p7 p8 p9 : Pos} {E : DE} {x y : Str} {c m : Nat} {rest : List Stmt} {pos' : Pos}
/-- for row in t: row[j] = e, e a new list of scalars -/
theorem c_forRowO {β : Type} {encB : β → PyData} {zss : List (List (List β))} {ep nn : Nat} {jj : Int} {g : List (List β) → List β} (i j : Nat) (hp : PassesOwn (model X.prog X.w) X.A X.env X.xe) (hN : X.N.Nodup) (hi : X.N[i]? = some x) (hv : Vis X.env.scope x) (hj : X.N[j]? = some y) (hvj : Vis X.env.scope y)
    (ho : env[i]? = some (.tab ep c nn m (zss.map (·.map (eL encB))))) (hij : i ≠ j) (hjl : j < env.length) (hfree : (env.set i .no).all (tabFree ep) = true) (hsc : ∀ r ∈ zss, ((g r).map encB).all scalD = true)
    (he : ∀ r ∈ zss, PE X e (tO X.K (((env.map softS).set i .no).set j (.dat (eL (eL encB) r))) ((g r).map encB))) (hb : ∀ r ∈ zss, PE X b (tE X.K true (((env.map softS).set i .no).set j (.dat (eL (eL encB) r))) (.int jj))) (hjj : ∀ r ∈ zss, 0 ≤ jj ∧ jj < (r.length : Int))
    (h : E.nx ((env.set i (.tab ep c nn m ((zss.map fun r => r.set jj.toNat (g r)).map (·.map (eL encB))))).set j .no))
    (hd : (x == ("__debug__" : Str)) = false := by decide) (hcd : (x == ("__classdict__" : Str)) = false := by decide) (hdj : (y == ("__debug__" : Str)) = false := by decide) (hcdj : (y == ("__classdict__" : Str)) = false := by decide)
    (hx : Loc X.env.scope y := by first | exact .inl rfl | exact .inr rfl) (hf : X.fn y = true ∨ X.env.scope.names.lookup y = some .local := by first | exact .inl rfl | exact .inr rfl)
    (hc : X.calm = true := by rfl) (hs : ∀ z, foldedSetIterable (.Name x p1) X.env z = pure z := by intro _; rfl)
    (ha : ∀ v, assign (.Subscript (.Name y p3) b p4) X.env v = (do
      let ov ← holding [v] (eval (.Name y p3) X.env)
      let iv ← holding [v, ov] (eval b X.env)
      standAt p4
      holding [v, ov, iv] (setItem ov iv v)
      release [v, ov, iv] []) := by intro _; rfl)
    (hs1 : swapsWithSole [.Subscript (.Name y p3) b p4] e p5.line X.env = pure false := by rfl) (hw : swappedStores [.Subscript (.Name y p3) b p4] e X.env = pure none := by rfl) :
    PS X (.For (.Name y p2) (.Name x p1) [.Assign [.Subscript (.Name y p3) b p4] e p5] [] pos) (tS X.K env E) :=
  psmono (ps_for hp hc (pi_list (pe_var hi hv hd hcd)) (pg_name hN hj hx hf) (pss_one (ps_asg (te := fun σ H Q => ∃ r, r ∈ zss ∧ tO X.K (((env.map softS).set i .no).set j (.dat (eL (eL encB) r))) ((g r).map encB) σ H Q) ⟨fun pins s σ H Q I ⟨r, hr, q⟩ => (he r hr).run pins s σ H Q I q⟩
    (pg_sub (pe_var hj hvj hdj hcdj) (ti := fun σ H Q => ∃ r, r ∈ zss ∧ tE X.K true (((env.map softS).set i .no).set j (.dat (eL (eL encB) r))) (.int jj) σ H Q) ⟨fun pins s σ H Q I ⟨r, hr, q⟩ => (hb r hr).run pins s σ H Q I q⟩ set_list ha) hs1 hw)) hs) fun D σ H ⟨F0, H0, F, ok, nx, bk, ct, rt⟩ => by
    obtain ⟨Φ, c0, mo⟩ := ok.tre
    obtain ⟨hcc, hep, q, vs, t1, t2, t3, t4⟩ := mo.tab i _ _ _ _ _ ho
    subst hcc
    let f : List (List β) → List (List β) := fun r => r.set jj.toNat (g r)
    let T : Nat → List Sl := fun k => (env.set i (.tab ep c nn m ((rowsTo f zss k).map (·.map (eL encB))))).set j .no
    have hil : i < env.length := (List.getElem?_eq_some_iff.mp ho).1
    have Ti : ∀ k, (T k)[i]? = some (.tab ep c nn m ((rowsTo f zss k).map (·.map (eL encB)))) := fun k => by
      show ((env.set i _).set j _)[i]? = _
      rw [List.getElem?_set_ne (Ne.symm hij), List.getElem?_set_self hil]
    have Tj : ∀ k, (T k).set j .no = T k := fun k => by show ((env.set i _).set j _).set j _ = _; rw [List.set_set]
    have Tf : ∀ k, ((T k).set i .no).all (tabFree ep) = true := fun k => by
      show (((env.set i _).set j .no).set i .no).all _ = true
      rw [List.set_comm _ _ (Ne.symm hij), List.set_set]
      rw [List.all_eq_true] at hfree ⊢
      intro s hs
      rcases List.mem_or_eq_of_mem_set hs with hs | rfl
      · exact hfree s hs
      · rfl
    have Tr : ∀ k r, (((T k).map softS).set i .no).set j (.dat (eL (eL encB) r)) = ((env.map softS).set i .no).set j (.dat (eL (eL encB) r)) := fun k r => by
      show ((((env.set i _).set j _).map softS).set i .no).set j _ = _
      rw [List.map_set, List.map_set, List.set_comm _ _ (Ne.symm hij), List.set_set, List.set_set]
    have hvl : vs.length = zss.length := by rw [t4.2.1, List.length_map]
    have e0 : T 0 = env.set j .no := by
      show (env.set i (.tab ep c nn m ((rowsTo f zss 0).map (·.map (eL encB))))).set j .no = _
      rw [rowsTo_zero]
      congr 1
      obtain ⟨z1, z2⟩ := List.getElem?_eq_some_iff.mp ho
      rw [← z2, List.set_getElem_self]
    refine ⟨.ref q, t1, q, rfl, ⟨vs, sqOf t3⟩, ?_⟩
    have it := iter_of (K := X.K) (a := q)
    refine ⟨fun k r σ' H' => k ≤ vs.length ∧ r = vs.length - k ∧ ∃ F', Ok X.K F0 H0 (T k) σ' F' H' ∧ Mes X.K H0 (T k) σ' F' H' Φ c ∧ σ'[i]? = some (some (.ref q)) ∧ H' q = some (.lst vs) ∧ TabAt X.K F' H' Φ ep m vs ((rowsTo f zss k).map (·.map (eL encB))), ⟨vs.length, Nat.zero_le _, rfl, F, ?_⟩, ?_⟩
    · rw [e0, rowsTo_zero]
      exact ⟨ok.forget j, mo.setE trivial, t1, t3, t4⟩
    rintro k r σ' H' ⟨hle, rfl, F', ok', m', s1, hH, tt⟩
    by_cases hlt : k < vs.length
    · have hkz : k < zss.length := by omega
      have hr : zss[k]? = some zss[k] := List.getElem?_eq_getElem hkz
      have hmem : zss[k] ∈ zss := List.getElem_mem hkz
      refine .inr ⟨it.go k H' vs hH hlt, fun σ2 H2 => ∃ F2, Ok X.K F0 H0 (T (k + 1)) σ2 F2 H2 ∧ Mes X.K H0 (T (k + 1)) σ2 F2 H2 Φ c ∧ σ2[i]? = some (some (.ref q)) ∧ H2 q = some (.lst vs) ∧ TabAt X.K F2 H2 Φ ep m vs ((rowsTo f zss (k + 1)).map (·.map (eL encB))), fun σ2 H2 ⟨F2, w⟩ => ⟨vs.length - (k + 1), by omega, hlt, rfl, F2, w⟩, fun v H3 hy => ?_⟩
      obtain ⟨rfl, hv⟩ := it.yld k H' vs v _ hH hy
      obtain ⟨p, ws, a1, a2, a3, a4⟩ := tt.2.2 k (zss[k].map (eL encB)) (by rw [List.getElem?_map, rowsTo_at f hr]; rfl)
      rw [hv] at a1; cases a1
      have ok4 : Ok X.K F0 H0 (T k) (σ'.set j (some (.ref p))) F' H3 := by
        have := ok'.setNo (i := j) (x := some (.ref p))
        rwa [Tj] at this
      have m4 : Mes X.K H0 (T k) (σ'.set j (some (.ref p))) F' H3 Φ c := by
        have := m'.setX (i := j) (s := .no) (x := some (.ref p)) trivial
        rwa [Tj] at this
      have hjσ : j < σ'.length := by rw [ok'.len]; show j < ((env.set i _).set j _).length; rw [List.length_set, List.length_set]; exact hjl
      have sj : (σ'.set j (some (V.ref p)))[j]? = some (some (.ref p)) := List.getElem?_set_self hjσ
      have si : (σ'.set j (some (V.ref p)))[i]? = some (some (.ref q)) := by rw [List.getElem?_set_ne (Ne.symm hij)]; exact s1
      obtain ⟨Fs, okS, xs, fS⟩ := ok4.soft m4
      have okR : Ok X.K F0 H0 (((env.map softS).set i .no).set j (.dat (eL (eL encB) zss[k]))) (σ'.set j (some (.ref p))) Fs H3 := by
        have := (okS.forget i).setDat (i := j) (v := .ref p) (d := eL (eL encB) zss[k]) (.lst (by rw [fS p _ a2]; exact a3) (a4.up xs))
        rwa [Tr, List.set_set] at this
      refine ⟨zss[k], hmem, F0, H0, Fs, okR, fun p1 ws1 F1 H1 g1 hp1 hf1 hw1 hd1 => ?_⟩
      refine ⟨.ref p, sj, zss[k], hmem, F0, H0, F1, okR.grow g1, fun w F2 H2 g2 x2 => ?_⟩
      cases (show Dq X.K F2 w (.int jj) from x2)
      have G : Grow F' H3 (upd F' p1 (.lst ws1)) H2 := (Grow.junk ok4.g.fh (g1.hh.trans g2.hh)).frz hp1 (ok4.g.fh.back hp1) (g2.hh _ _ hw1)
      have ok6 := ok4.grow G
      have m6 := m4.grow G ok4.g.fh ok4.g.hh
      have tt6 : TabAt X.K (upd F' p1 (.lst ws1)) H2 Φ ep m vs ((rowsTo f zss k).map (·.map (eL encB))) := tt.up G.ff (fun _ z => z) fun _ _ _ z => G.hh _ _ z
      have wl : ws.length = zss[k].length := by rw [a4.length, List.length_map]
      have hjk := hjj _ hmem
      obtain ⟨b1, b2, b3, b4⟩ := ok6.tabPut m6 (Ti k) hep (Tf k) si t2 (G.hh _ _ hH) tt6 hv a2 (G.hh _ _ a3) (us := ws.set jj.toNat (.ref p1)) (es := (f zss[k]).map (eL encB)) (by rw [List.length_set]) (by
        show DqAll _ _ _ ((zss[k].set jj.toNat (g zss[k])).map (eL encB))
        rw [List.map_set]
        exact DqAll.set (show Dq X.K (upd F' p1 (.lst ws1)) (.ref p1) (eL encB (g zss[k])) from .lst upd_same (hd1.scal (hsc _ hmem))) jj.toNat (a4.up G.ff))
      have e1 : (T k).set i (.tab ep c nn m (((rowsTo f zss k).map (·.map (eL encB))).set k ((f zss[k]).map (eL encB)))) = T (k + 1) := by
        show ((env.set i _).set j _).set i _ = (env.set i _).set j _
        rw [List.set_comm _ _ (Ne.symm hij), List.set_set, rowsTo_succ f hr]
        conv => rhs; rw [List.map_set]
      have e2 : ((rowsTo f zss k).map (·.map (eL encB))).set k ((f zss[k]).map (eL encB)) = (rowsTo f zss (k + 1)).map (·.map (eL encB)) := by
        rw [rowsTo_succ f hr]
        conv => rhs; rw [List.map_set]
      rw [e1] at b1 b2
      rw [e2] at b4
      refine ⟨p, ws, jj, jj.toNat, rfl, rfl, G.hh _ _ a3, ?_, _, b1, b2, si, b3, b4⟩
      unfold ixN
      rw [if_pos hjk.1, if_pos (by rw [wl]; exact hjk.2)]
    · have e : k = vs.length := by omega
      subst e
      refine .inl ⟨it.stop _ H' vs hH (Nat.le_refl _), nx _ σ' F' H' ?_ ok'⟩
      have : T vs.length = (env.set i (.tab ep c nn m ((zss.map fun r => r.set jj.toNat (g r)).map (·.map (eL encB))))).set j .no := by
        show (env.set i (.tab ep c nn m ((rowsTo f zss vs.length).map (·.map (eL encB))))).set j .no = _
        rw [hvl, rowsTo_all]
      rw [this]
      exact h
end
end D3
namespace D3
open PySem PySem.Spec L2 PyProof.Rows
section
variable {X : Cx} {K : KF} {e a b : Expr} {env env' : List Sl} {d : PyData} {ds : List PyData} {pos p1 p2 p3 p4 : Pos} {E : DE} {x y : Str} {c m : Nat} {rest : List Stmt} {F0 H0 F H : Hp} {σ : L2.St} {Φ : Reg} {t : Ty}
/-! ### an own list of ints goes into a new tree -/
theorem Ok.freezeAt (o : Ok K F0 H0 env σ F H) {i : Nat} {p : Addr} {vs : List V} (hi : env[i]? = some (.own ds)) (a : σ[i]? = some (some (.ref p))) (d : H p = some (.lst vs)) : Ok K F0 H0 (env.set i .no) σ (upd F p (.lst vs)) H := by
  obtain ⟨p', vs', a', b, c, d', f⟩ := o.own i ds hi
  rw [a] at a'; cases a'
  rw [d] at d'; cases d'
  have hx : Ex F (upd F p (.lst vs)) := Ex.new b
  refine ⟨o.g.frz c b d, fun j e h => ?_, fun j e h => ?_, fun j k es fs q h1 h2 h3 h4 => ?_, fun j e h => ?_, fun j a2 dd2 e h => ?_, by rw [List.length_set, o.len], by
    obtain ⟨Φ, c, m⟩ := o.tre
    exact ⟨Φ, c, m.freeze ⟨a, .inl ⟨ds, hi⟩⟩ d trivial⟩⟩
  · rcases get_set_cases h with ⟨rfl, hl, q⟩ | ⟨ne, q⟩
    · cases q
    · obtain ⟨w, a, b⟩ := o.dat j e q
      exact ⟨w, a, b.up hx⟩
  · rcases get_set_cases h with ⟨rfl, hl, q⟩ | ⟨ne, q⟩
    · cases q
    · obtain ⟨p2, vs2, a2, b2, c2, d2, f2⟩ := o.own j e q
      have hne : p2 ≠ p := fun z => by
        subst z
        exact ne (o.sep i j _ _ _ hi q a a2)
      exact ⟨p2, vs2, a2, by rw [upd_ne hne]; exact b2, c2, d2, f2.up hx⟩
  · rcases get_set_cases h1 with ⟨rfl, hl, q1⟩ | ⟨ne, q1⟩
    · cases q1
    · rcases get_set_cases h2 with ⟨rfl, hl, q2⟩ | ⟨ne2, q2⟩
      · cases q2
      · exact o.sep _ _ _ _ _ q1 q2 h3 h4
  · rcases get_set_cases h with ⟨rfl, hl, q⟩ | ⟨ne, q⟩
    · cases q
    · obtain ⟨w, a, b⟩ := o.scr j e q
      exact ⟨w, a, ex_l hx b⟩
  · rcases get_set_cases h with ⟨rfl, hl, q⟩ | ⟨ne, q⟩
    · cases q
    · obtain ⟨v2, a3, b3, c3⟩ := o.exc j a2 dd2 e q
      exact ⟨v2, a3, b3, c3.up hx⟩
def addR (Φ : Reg) (p : Addr) (nn : Nat) : Reg := fun a => if a = p then some (0, nn, .int) else Φ a
theorem addR_at {p : Addr} {nn : Nat} : addR Φ p nn p = some (0, nn, .int) := if_pos rfl
theorem addR_ne {a p : Addr} {nn : Nat} (h : a ≠ p) : addR Φ p nn a = Φ a := if_neg h
/-- the list p of ints, frozen, is from now on a list of the trees -/
theorem Mes.addInts {p : Addr} {ws : List V} {nn : Nat} {zs : List Int} (m : Mes K H0 env σ F H Φ c) (hp : Φ p = none) (hn : ∀ j, ¬ OwnS env σ j p) (hF : F p = some (.lst ws)) (hH : H p = some (.lst ws)) (h0 : H0 p = none) (hw : ws = zs.map V.int) (hl : zs.length ≤ nn) :
    Mes K H0 env σ F H (addR Φ p nn) c ∧ ExR Φ (addR Φ p nn) := by
  have pN : addR Φ p nn p = some (0, nn, .int) := addR_at
  have pO : ∀ a, a ≠ p → addR Φ p nn a = Φ a := fun a h => addR_ne h
  have xr : ExR Φ (addR Φ p nn) := fun a z hz => by
    rw [pO a (fun w => by rw [w, hp] at hz; cases hz)]; exact hz
  refine ⟨⟨fun a e n t h => ?_, fun i q ho => ?_, m.sep, fun i e c' t d h => ?_, fun i a vs e c' n t h => ?_, fun i t ds h => ?_, fun i e c' n m' dss h => ?_, m.tr.of (fun i v t h => ⟨h, rfl⟩) (Ex.refl _) fun a z => ⟨xr _ _ z, fun _ y => y⟩⟩, xr⟩
  · by_cases ha : a = p
    · subst ha
      rw [pN] at h; cases h
      exact ⟨h0, fun _ => ⟨ws, hF, by rw [hw, List.length_map]; exact hl⟩, fun z => absurd rfl z, ws, hH, by rw [hw, List.length_map]; exact Nat.le_trans hl (Nat.le_add_right _ _), fun w hw' => by
        rw [hw] at hw'
        obtain ⟨i, _, rfl⟩ := List.mem_map.mp hw'
        exact ⟨i, rfl⟩⟩
    · rw [pO a ha] at h
      obtain ⟨s1, s2, s3, us, s4, s5, s6⟩ := m.reg a e n t h
      exact ⟨s1, s2, s3, us, s4, s5, fun w hw => VT.up (Ex.refl _) xr _ _ (s6 w hw)⟩
  · obtain ⟨s1, s2⟩ := m.own i q ho
    exact ⟨by rw [pO q (fun z => hn i (z ▸ ho))]; exact s1, s2⟩
  · obtain ⟨hc, v, h1, h2, h3⟩ := m.mes i e c' t d h
    refine ⟨hc, v, h1, VT.up (Ex.refl _) xr _ _ h2, fun x hx => (h3 x hx).up fun a o h => ?_⟩
    by_cases ha : a = p
    · subst ha
      have e1 : mixH F Φ e H a = F a := by unfold mixH; rw [hp]
      rw [e1, hF] at h
      show mixH F (addR Φ a nn) e H a = some o
      unfold mixH
      rw [pN]
      show (if 0 ≤ e then H a else F a) = some o
      rw [if_pos (Nat.zero_le e), hH]; exact h
    · unfold mixH at h ⊢
      rw [pO a ha]; exact h
  · obtain ⟨hc, h1, h2, v, h3, h4⟩ := m.itm i a vs e c' n t h
    exact ⟨hc, h1, xr _ _ h2, v, h3, VT.up (Ex.refl _) xr _ _ h4⟩
  · obtain ⟨q, vs, s1, s2, s3, s4⟩ := m.ownN i t ds h
    exact ⟨q, vs, s1, s2, s3, fun w hw => VT.up (Ex.refl _) xr _ _ (s4 w hw)⟩
  · obtain ⟨b1, b0, q', vs', b2, b3, b4, b5⟩ := m.tab i e c' n m' dss h
    exact ⟨b1, b0, q', vs', b2, xr _ _ b3, b4, b5.up (Ex.refl _) (fun p' z => xr _ _ z) (fun _ _ _ z => z)⟩
/-- x.append(y): y a list of ints that this def alone knows -/
theorem s_appNV {α : Type} {enc : α → PyData} {zs : List α} {ys : List Int} {z : α} {nn : Nat} (i j : Nat) (hi : X.N[i]? = some x) (hv : Vis X.env.scope x) (ho : env[i]? = some (.ownN (.L nn .int) (zs.map enc))) (hj : X.N[j]? = some y) (hvj : Vis X.env.scope y) (hoj : env[j]? = some (.own (ys.map .int))) (hij : i ≠ j) (he : enc z = eL PyData.int ys) (hn : ys.length ≤ nn) (hz : zs.length < sizeLine)
    (h : E.nx ((env.set j .no).set i (.ownN (.L nn .int) ((zs ++ [z]).map enc))))
    (hd : (x == ("__debug__" : Str)) = false := by decide) (hcd : (x == ("__classdict__" : Str)) = false := by decide) (hdj : (y == ("__debug__" : Str)) = false := by decide) (hcdj : (y == ("__classdict__" : Str)) = false := by decide) (na : NS X (.Name y p4) := by exact fun _ => rfl)
    (hbase : attributeBase (.Name x p1) "append" X.env (eval (.Name x p1) X.env) = eval (.Name x p1) X.env := by rfl) (hline : (p2.endLine == p3.line) = true := by rfl)
    (hs : swapsWith (.Call (.Attribute (.Name x p1) "append" p2) [.Name y p4] [] p3) none pos.line X.env = pure false := by rfl) : PS X (.Expr (.Call (.Attribute (.Name x p1) "append" p2) [.Name y p4] [] p3) pos) (tS X.K env E) :=
  psmono (ps_expr (pe_bm (hline := hline) PySem.F.plainAttrs_list PySem.F.slot_list_append PySem.F.type_list_append mt_append (pe_var hi hv hd hcd) (pa_cons (pe_var hj hvj hdj hcdj) pa_nil (na [])) (hs := na []) (hfew := by rw [na []]; rfl) (hbase := hbase)) hs) fun D σ H ⟨F0, H0, F, ok, nx, _⟩ => by
    obtain ⟨Φ, c, m⟩ := ok.tre
    obtain ⟨p, vs, h1, h4, h5, h6⟩ := m.ownN i _ _ ho
    obtain ⟨q, ws, b1, b2, b3, b4, b5⟩ := ok.own j _ hoj
    have os : OwnS env σ i p := ⟨h1, .inr ⟨_, _, ho⟩⟩
    have oj : OwnS env σ j q := ⟨b1, .inl ⟨_, hoj⟩⟩
    have hpq : p ≠ q := fun z => hij (m.sep i j p os (z ▸ oj))
    have m0 : Mes X.K H0 (env.set j .no) σ (upd F q (.lst ws)) H Φ c := m.freeze oj b4 trivial
    have o0 := ok.freezeAt hoj b1 b4
    have hx : Ex F (upd F q (.lst ws)) := Ex.new b2
    obtain ⟨m1, xr⟩ := m0.addInts (p := q) (nn := nn) (zs := ys) (m.own j q oj).1 (fun k hk => by
      obtain ⟨k1, k2⟩ := OwnS.of_setE (s := .no) trivial hk
      exact k1 (m.sep j k q oj k2)) upd_same b4 b3 (DqAll.ints b5) hn
    have ho1 : (env.set j .no)[i]? = some (.ownN (.L nn .int) (zs.map enc)) := by rw [List.getElem?_set_ne (Ne.symm hij)]; exact ho
    have os1 : OwnS (env.set j .no) σ i p := ⟨h1, .inr ⟨_, _, ho1⟩⟩
    obtain ⟨_, q2, q3, _⟩ := m1.own i p os1
    refine ⟨.ref p, h1, .inl ⟨rfl, _, .inl (.inl h4)⟩, .ref q, b1, p, vs, .ref q, rfl, rfl, h4, by rw [h5.length, List.length_map]; exact hz, nx _ _ (upd F q (.lst ws)) _ h (o0.putT q2 q3 h4 (fun k es hk z => ?_) (fun k s hk => ?_) (by rw [List.length_set]) ⟨_, c, m1.put os1 (.inr ⟨_, _, rfl, ?_, fun w hw => ?_⟩)⟩)⟩
    · rcases get_set_cases hk with ⟨_, _, q⟩ | ⟨ne, q⟩
      · cases q
      · exact ne (m0.sep i k p os1 ⟨z, .inl ⟨es, q⟩⟩)
    · rcases get_set_cases hk with ⟨_, _, q⟩ | ⟨ne, q⟩
      · subst q; exact .inl trivial
      · exact .inr (.inr q)
    · rw [List.map_append]
      refine (h5.up hx).append (.cons ?_ .nil)
      rw [he]
      exact .lst upd_same (b5.up hx)
    · rcases List.mem_append.mp hw with hw | hw
      · exact VT.up hx xr _ _ (h6 w hw)
      · rw [List.mem_singleton.mp hw]; exact ⟨q, rfl, addR_at⟩
/-- [], a new list of any kind -/
theorem f_nilT {α : Type} {enc : α → PyData} {n : Nat} : PE X (.List [] pos) (tF X.K (.L n t) env (eL enc ([] : List α))) := pmono (o_nil (X := X) (env := env) (pos := pos)) fun σ H Q ⟨F0, H0, F, ok, q⟩ => ⟨F0, H0, F, ok, fun p vs F1 H1 g h1 h2 h3 h4 => by
  cases h4
  exact q (.ref p) (upd F1 p (.lst [])) H1 (fun a => if a = p then some (0, n, t) else none) ⟨g.ff.trans (Ex.new h2), g.hh, g.fh.at_ h3, fun a h0 h1' => by
    by_cases ha : a = p
    · subst ha; exact absurd h1 h1'
    · rw [upd_ne ha]; exact g.old a h0 h1'⟩ (fun a e m t h => by
    by_cases ha : a = p
    · subst ha
      simp only [if_true] at h
      cases h
      exact ⟨rfl, h1, [], upd_same, Nat.zero_le _, fun w hw => by cases hw⟩
    · simp only [if_neg ha] at h; cases h) (.lst upd_same .nil) ⟨p, rfl, by simp⟩⟩
/-! ### repr of an int or of None -/
def shw : PyData → Str
  | .int i => Str.ofString (toString i)
  | .none => "None"
  | _ => ""
def IN (d : PyData) : Prop := d = .none ∨ ∃ i : Int, d = .int i ∧ i.natAbs.log2 < 1920
theorem call_reprU : CallR X (.builtin "repr") (fun xs H Q => (∃ i : Int, xs = [.int i] ∧ i.natAbs.log2 < 1920 ∧ Q (.str (Str.ofString (toString i))) H) ∨ xs = [.non] ∧ Q (.str "None") H) := by
  intro pins s σ H xs us Q I r h
  rcases h with ⟨i, rfl, hl, q⟩ | ⟨rfl, q⟩
  · obtain ⟨u, rfl, t⟩ := vals1 r
    obtain ⟨t', rfl⟩ := (show ∃ t', u = Value.int i t' from t)
    exact PySem.P.repr_of_int hl ⟨.str _, H, I.tok _, ⟨_, rfl⟩, q⟩
  · obtain ⟨u, rfl, t⟩ := vals1 r
    cases (show u = Value.none from t)
    exact PySem.P.repr_of_none ⟨.str _, H, I.tok _, ⟨_, rfl⟩, q⟩
theorem e_reprU {m : Bool} (hm : X.mg "repr" = none) (h : PE X e (tE X.K true env d)) (hd : IN d) (hg : Gl X "repr" := by rfl) (ns : NS X e := by exact fun _ => rfl) : PE X (.Call (.Name "repr" p1) [e] [] pos) (tE X.K m env (.str (shw d))) :=
  pmono (pe_callB call_reprU hg hm PyProof.Rows.boot_repr (pa_cons h pa_nil (ns [])) (he := ns [])) fun σ H Q ⟨F0, H0, F, ok, q⟩ => ⟨F0, H0, F, ok, fun v F1 H1 g1 x => by
    rcases hd with rfl | ⟨i, rfl, hl⟩
    · cases (show Dq X.K F1 v .none from x)
      exact .inr ⟨rfl, q _ F1 H1 g1 (.str _)⟩
    · cases (show Dq X.K F1 v (.int i) from x)
      exact .inl ⟨i, rfl, hl, q _ F1 H1 g1 (.str _)⟩⟩
end
end D3
namespace D3
open PySem PySem.Spec L2 PyProof.Rows
section
variable {X : Cx} {K : KF} {e a b : Expr} {es : List Expr} {env env' : List Sl} {d : PyData} {ds : List PyData} {dss : List (List PyData)} {pos p p1 p2 p3 p4 : Pos} {E : DE} {x y : Str} {c m k n : Nat} {rest : List Stmt} {t : Ty}
/-! ### defs that give a new table -/
theorem NewTab.back {H0 H F' H' : Hp} {D : Addr} {vs : List V} (g : Ex H0 H) (h : NewTab K H F' H' m D vs dss) : NewTab K H0 F' H' m D vs dss := by
  obtain ⟨h1, h2, h3⟩ := h
  refine ⟨h1, h2, fun k ds hk => ?_⟩
  obtain ⟨p, ws, a1, a2, a3, a4⟩ := h3 k ds hk
  exact ⟨p, ws, a1, a2, g.back a3, a4⟩
theorem t_call {R : List PyData → RS → Prop} (D : Def X.prog X.w X.K X.mg X.base k x (spD X.K n R)) (hr : Room k X.A) (ha : PA X (e :: es) (tA X.K true env ds)) (hn : ds.length = n) (hR : R ds (.tab m dss)) (hg : Gl X x := by rfl) (hdb : (x == ("__debug__" : Str)) = false := by decide)
    (he : starEach (e :: es) X.env = (false, eval e X.env) :: starEach es X.env := by rfl) (hpl : (backTo pos (starEach es X.env)).any (·.1) = false := by rfl) : PE X (.Call (.Name x p) (e :: es) [] pos) (tTab X.K m env dss) := by
  obtain ⟨f, fd, ps, Fo, hm, hk, hb⟩ := D
  exact pmono (pe_call (E := E0) Fo hr hg hm hk hb .nil pass0 ha hdb he hpl) fun σ H Q ⟨F0, H0, F, ok, q⟩ => ⟨F0, H0, F, ok, fun vs F1 H1 g1 x1 => ⟨F1, ds, .tab m dss, g1.fh, by rw [List.append_nil]; exact x1, hn, hR, fun D vs2 F2 H2 g2 h1 h2 h3 h4 => q D vs2 F2 H2 (g1.trans g2) (g1.hh.back h1) h2 h3 (h4.back g1.hh)⟩⟩
/-- [e for ..], each e a new list -/
theorem t_lc {α β : Type} {zs : List α} {enc : α → PyData} {encB : β → PyData} {g : TG} {ix : List Nat} {f : α → List Sl → List Sl} {y : α → List β} {own : List (Str × Nat)} {tg iter elt : Expr} {scope : Scope}
    (hN : X.N.Nodup) (hi : PI X tg iter (tI X.K env (zs.map enc))) (hl : zs.length ≤ 1000000) (hm : ∀ z ∈ zs, (y z).length ≤ m) (okb : blkC X.N X.env.scope scope own = true) (hg : Blk X scope fun X' => PG X' tg g)
    (hf : ∀ z ∈ zs, Asg X.K g (enc z) (f z) ix) (hix : ∀ i ∈ ix, i ∈ own.map (·.2))
    (he : ∀ z ∈ zs, Blk X scope fun X' => PE X' elt (tO X.K (f z (wipeE env (own.map (·.2)))) ((y z).map encB)))
    (hc : X.calm = true := by rfl) (hs : ∀ x, foldedSetIterable iter X.env x = pure x := by intro _; rfl) : PE X (.ListComp elt [⟨tg, iter, [], 0⟩] scope pos) (tTab X.K m env ((zs.map y).map (·.map encB))) :=
  pmono (pe_lc (te := fun σ H Q => ∃ z, (z ∈ zs) ∧ tO X.K (f z (wipeE env (own.map (·.2)))) ((y z).map encB) σ H Q) (tt := fun σ H Q => ∃ z, (z ∈ zs) ∧ tT X.K (f z (wipeE env (own.map (·.2)))) true σ H Q) hc hN hi (blkOk_by okb) hg
    (fun s H C cl fp => ⟨fun pins s1 σ H Q I ⟨z, hz, q⟩ => ts_nil.run pins s1 σ H Q I q⟩) (fun s H C cl fp => ⟨fun pins s1 σ H Q I ⟨z, hz, q⟩ => (he z hz s _ C cl fp).run pins s1 σ H Q I q⟩) hs) fun σ H Q h =>
      lc_readT (y := fun z => (y z).map encB) (m := m) hl (fun z hz => by rw [List.length_map]; exact hm z hz) hf hix (by rw [List.map_map] at h; exact h)
theorem s_retTab (he : PE X e (tTab K m env dss)) (h : E.rt (.tab m dss)) : PS X (.Return (some e) pos) (tS K env E) :=
  psmono (ps_ret he) fun D σ H ⟨F0, H0, F, ok, _, _, _, r⟩ => ⟨F0, H0, F, ok, fun D vs F1 H1 g1 h1 h2 h3 h4 => r _ h D vs F1 H1 (ok.g.trans g1) (ok.g.hh.back h1) h2 h3 (h4.back ok.g.hh)⟩
/-- x = e, e a new table -/
theorem s_setTabC {β : Type} {encB : β → PyData} {zss : List (List β)} {spos py : Pos} {xn : Str} {nn : Nat} (ep i : Nat) (hN : X.N.Nodup) (hxi : X.N[i]? = some xn) (he : PE X e (tTab X.K m env (zss.map (·.map encB)))) (hnn : zss.length ≤ nn) (hep : ep ≠ 0) (hpin : Pin env c) (h : E.nx (env.set i (.tab ep c nn m (zss.map (·.map encB)))))
    (hx : Loc X.env.scope xn := by first | exact .inl rfl | exact .inr rfl) (hsw : swapsWith e (some (.Name xn py)) spos.line X.env = pure false := by rfl) (hf2 : X.fn xn = true ∨ X.env.scope.names.lookup xn = some .local := by first | exact .inl rfl | exact .inr rfl) : PS X (.Assign [.Name xn py] e spos) (tS X.K env E) :=
  psmono (ps_set hN hxi hx he hsw hf2) fun D σ H ⟨F0, H0, F, ok, n, _⟩ => ⟨F0, H0, F, ok, fun D vs F1 H1 g1 h1 h2 h3 h4 => n _ _ F1 H1 h (ok.newTab hpin hep g1 h1 h2 h3 h4 (by rw [List.length_map]; exact hnn))⟩
open Classical in
/-- .. its rows as data -/
theorem o_tab (h : PE X e (tTab K m env dss)) : PE X e (tO K env (dss.map .list)) := pmono h fun σ H Q ⟨F0, H0, F, ok, q⟩ => ⟨F0, H0, F, ok, fun D vs F1 H1 g1 h1 h2 h3 h4 => by
  obtain ⟨n1, n2, n3⟩ := h4
  have items : ∀ p, V.ref p ∈ vs → p ≠ D ∧ H p = none ∧ F1 p = none := fun p hp => by
    obtain ⟨k, hk⟩ := List.getElem?_of_mem hp
    have hkl : k < dss.length := by rw [← n2]; exact (List.getElem?_eq_some_iff.mp hk).1
    obtain ⟨q, ws, a1, a2, a3, a4, _⟩ := n3 k _ (List.getElem?_eq_getElem hkl)
    rw [hk] at a1; cases a1
    exact ⟨a2, a3, a4⟩
  let F2 : Hp := fun a => if V.ref a ∈ vs then H1 a else F1 a
  have fI : ∀ a, V.ref a ∈ vs → F2 a = H1 a := fun a h => if_pos h
  have fO : ∀ a, V.ref a ∉ vs → F2 a = F1 a := fun a h => if_neg h
  have xf : Ex F1 F2 := fun a o h => by
    by_cases hm : V.ref a ∈ vs
    · rw [(items a hm).2.2] at h; cases h
    · rw [fO a hm]; exact h
  have xh : Ex F2 H1 := fun a o h => by
    by_cases hm : V.ref a ∈ vs
    · rw [fI a hm] at h; exact h
    · rw [fO a hm] at h; exact g1.fh _ _ h
  refine q D vs F2 H1 ⟨g1.ff.trans xf, g1.hh, xh, fun a a0 a1 => ?_⟩ h1 (by rw [fO D (fun z => (items D z).1 rfl)]; exact h2) h3 ?_
  · by_cases hm : V.ref a ∈ vs
    · exact absurd (items a hm).2.1 a1
    · rw [fO a hm]; exact g1.old a a0 a1
  · have build : ∀ (us : List V) (es : List (List PyData)), us.length = es.length → (∀ (k : Nat) ds, es[k]? = some ds → ∃ p ws, us[k]? = some (.ref p) ∧ F2 p = some (.lst ws) ∧ DqAll K F2 ws ds) → DqAll K F2 us (es.map .list) := by
      intro us
      induction us with
      | nil => intro es hl _; cases es with
        | nil => exact .nil
        | cons => cases hl
      | cons v us ih => intro es hl h; cases es with
        | nil => cases hl
        | cons ds es =>
          obtain ⟨p, ws, a1, a2, a3⟩ := h 0 ds rfl
          cases a1
          exact .cons (.lst a2 a3) (ih es (by simpa using hl) fun k ds hk => by
            obtain ⟨p, ws, a1, a2⟩ := h (k + 1) ds (by simpa using hk)
            exact ⟨p, ws, by simpa using a1, a2⟩)
    refine build vs dss n2 fun k ds hk => ?_
    obtain ⟨p, ws, a1, a2, a3, a4, a5, a6, a7⟩ := n3 k ds hk
    exact ⟨p, ws, a1, by rw [fI p (List.mem_of_getElem? a1)]; exact a5, a7.up xf⟩⟩
theorem o_tabG {α : Type} {enc : α → PyData} {zss : List (List α)} (h : PE X e (tTab K m env (zss.map (·.map enc)))) : PE X e (tO K env (zss.map (eL enc))) := by
  have h2 := o_tab h
  rw [List.map_map] at h2
  exact h2
end
end D3
namespace D3
open PySem PySem.Spec L2 PyProof.Rows

/-! ### trees of lists that nothing else knows -/
mutual
inductive TrD : Tr → PyData → Prop
  | leaf (d : PyData) : TrD (.leaf d) d
  | node {ts : List Tr} {ds : List PyData} : TrDs ts ds → TrD (.node ts) (.list ds)
  | tup {ts : List Tr} {ds : List PyData} : TrDs ts ds → TrD (.tup ts) (.tuple ds)
  | pin {v : V} {t : Tr} {d : PyData} : TrD t d → TrD (.pin v t) d
inductive TrDs : List Tr → List PyData → Prop
  | nil : TrDs [] []
  | cons {t : Tr} {ts : List Tr} {d : PyData} {ds : List PyData} : TrD t d → TrDs ts ds → TrDs (t :: ts) (d :: ds)
end
theorem TrDs.map {α : Type} {g : α → Tr} {f : α → PyData} : ∀ {zs : List α}, (∀ z ∈ zs, TrD (g z) (f z)) → TrDs (zs.map g) (zs.map f)
  | [], _ => .nil
  | z :: zs, h => .cons (h z (List.mem_cons_self ..)) (TrDs.map fun y hy => h y (List.mem_cons_of_mem _ hy))
theorem TrDs.leaves {α : Type} {f : α → PyData} (zs : List α) : TrDs (zs.map fun z => Tr.leaf (f z)) (zs.map f) := TrDs.map fun z _ => .leaf _
theorem TrDs.append : ∀ {ts us : List Tr} {ds es : List PyData}, TrDs ts ds → TrDs us es → TrDs (ts ++ us) (ds ++ es)
  | [], _, _, _, h, g => by cases h with | nil => exact g
  | t :: ts, _, _, _, h, g => by cases h with | cons h1 h2 => exact .cons h1 (TrDs.append h2 g)
section
variable {K : KF} {F F2 F' H H' H2 H0 F0 : Hp}
mutual
theorem TrAt.dq (xf : Ex F F2) : ∀ (t : Tr) (v : V) (A : List Addr) (d : PyData), TrAt K F H v t A → TrD t d → (∀ a ∈ A, ∀ vs, H a = some (.lst vs) → F2 a = some (.lst vs)) → Dq K F2 v d
  | .leaf d, _, _, _, h, q, _ => by
    cases h with
    | leaf h => cases q with
      | leaf => exact h.up xf
  | .node ts, _, _, _, h, q, g => by
    cases h with
    | node h1 hl h2 => cases q with
      | node q => exact .lst (g _ (List.mem_cons_self ..) _ h1) (TrAll.dq xf ts _ _ _ h2 q fun a ha => g a (List.mem_cons_of_mem _ ha))
  | .tup ts, _, _, _, h, q, g => by
    cases h with
    | tup h1 h2 => cases q with
      | tup q => exact .tup (ex_t xf h1) (TrAll.dq xf ts _ _ _ h2 q g)
  | .pin w t, _, _, _, h, q, g => by
    cases h with
    | pin h => cases q with
      | pin q => exact TrAt.dq xf t _ _ _ h q g
  | .hole w, _, _, _, h, q, g => by cases q
theorem TrAll.dq (xf : Ex F F2) : ∀ (ts : List Tr) (vs : List V) (A : List Addr) (ds : List PyData), TrAll K F H vs ts A → TrDs ts ds → (∀ a ∈ A, ∀ us, H a = some (.lst us) → F2 a = some (.lst us)) → DqAll K F2 vs ds
  | [], _, _, _, h, q, _ => by
    cases h with
    | nil => cases q with
      | nil => exact .nil
  | t :: ts, _, _, _, h, q, g => by
    cases h with
    | cons h1 h2 => cases q with
      | cons q1 q2 => exact .cons (TrAt.dq xf t _ _ _ h1 q1 fun a ha => g a (List.mem_append_left _ ha)) (TrAll.dq xf ts _ _ _ h2 q2 fun a ha => g a (List.mem_append_right _ ha))
end
theorem TrAll.length : ∀ {ts : List Tr} {vs : List V} {A : List Addr}, TrAll K F H vs ts A → vs.length = ts.length
  | [], _, _, h => by cases h with | nil => rfl
  | t :: ts, _, _, h => by cases h with | cons h1 h2 => simp [TrAll.length h2]
theorem TrAll.leaves : ∀ {ds : List PyData} {vs : List V}, DqAll K F vs ds → TrAll K F H vs (ds.map .leaf) []
  | [], _, h => by cases h with | nil => exact .nil
  | d :: ds, _, h => by cases h with | cons h1 h2 => exact .cons (A := []) (.leaf h1) (TrAll.leaves h2)
theorem TrAll.append : ∀ {ts us : List Tr} {vs ws : List V} {A B : List Addr}, TrAll K F H vs ts A → TrAll K F H ws us B → TrAll K F H (vs ++ ws) (ts ++ us) (A ++ B)
  | [], _, _, _, _, _, h, g => by cases h with | nil => exact g
  | t :: ts, _, _, _, _, _, h, g => by
    cases h with
    | cons h1 h2 =>
      rw [List.append_assoc]
      exact .cons h1 (TrAll.append h2 g)
mutual
theorem TrAt.lst : ∀ (t : Tr) (v : V) (A : List Addr), TrAt K F H v t A → ∀ a ∈ A, ∃ vs, H a = some (.lst vs) ∧ vs.length ≤ 1000000
  | .leaf d, _, _, h, a, ha => by cases h with | leaf h => cases ha
  | .node ts, _, _, h, a, ha => by
    cases h with
    | node h1 hl h2 =>
      rcases List.mem_cons.mp ha with rfl | ha
      · exact ⟨_, h1, hl⟩
      · exact TrAll.lst ts _ _ h2 a ha
  | .tup ts, _, _, h, a, ha => by cases h with | tup h1 h2 => exact TrAll.lst ts _ _ h2 a ha
  | .pin w t, _, _, h, a, ha => by cases h with | pin h => exact TrAt.lst t _ _ h a ha
  | .hole w, _, _, h, a, ha => by cases h with | hole => cases ha
theorem TrAll.lst : ∀ (ts : List Tr) (vs : List V) (A : List Addr), TrAll K F H vs ts A → ∀ a ∈ A, ∃ us, H a = some (.lst us) ∧ us.length ≤ 1000000
  | [], _, _, h, a, ha => by cases h with | nil => cases ha
  | t :: ts, _, _, h, a, ha => by
    cases h with
    | cons h1 h2 =>
      rcases List.mem_append.mp ha with ha | ha
      · exact TrAt.lst t _ _ h1 a ha
      · exact TrAll.lst ts _ _ h2 a ha
end
theorem NewA.back {F' H' : Hp} {A : List Addr} (g : Ex H0 H) (h : NewA H F' H' A) : NewA H0 F' H' A := ⟨h.1, fun a ha => by
  obtain ⟨h1, h2⟩ := h.2 a ha
  exact ⟨g.back h1, h2⟩⟩
open Classical in
/-- the lists A frozen -/
noncomputable def frzA (F H : Hp) (A : List Addr) : Hp := fun a => if a ∈ A then H a else F a
theorem frzA_in {A : List Addr} {a : Addr} (h : a ∈ A) : frzA F H A a = H a := by unfold frzA; rw [if_pos h]
theorem frzA_out {A : List Addr} {a : Addr} (h : a ∉ A) : frzA F H A a = F a := by unfold frzA; rw [if_neg h]
theorem frzA_ex {A : List Addr} (e : Ex F H) : Ex F (frzA F H A) := fun a o h => by
  by_cases ha : a ∈ A
  · rw [frzA_in ha]; exact e _ _ h
  · rw [frzA_out ha]; exact h
theorem frzA_le {A : List Addr} (e : Ex F H) : Ex (frzA F H A) H := fun a o h => by
  by_cases ha : a ∈ A
  · rw [frzA_in ha] at h; exact h
  · rw [frzA_out ha] at h; exact e _ _ h
theorem Grow.frzA {A : List Addr} {F1 H1 : Hp} (g : Grow F H F1 H1) (hn : ∀ a ∈ A, H a = none) : Grow F H (D3.frzA F1 H1 A) H1 :=
  ⟨g.ff.trans (frzA_ex g.fh), g.hh, frzA_le g.fh, fun a h0 h1 => by
    rw [frzA_out (fun ha => h1 (hn a ha))]; exact g.old a h0 h1⟩
end

/-- an expression that gives a new tree -/
def tTr (K : KF) (env : List Sl) (t : Tr) : TE := fun σ H Q => ∃ F0 H0 F, Ok K F0 H0 env σ F H ∧ ∀ v F' H' A, Grow F H F' H' → TrAt K F' H' v t A → NewA H F' H' A → Q v H'
def tTrA (K : KF) (env : List Sl) (ts : List Tr) : TA := fun σ H Q => ∃ F0 H0 F, Ok K F0 H0 env σ F H ∧ ∀ vs F' H' A, Grow F H F' H' → TrAll K F' H' vs ts A → NewA H F' H' A → Q vs H'
section
variable {X : Cx} {K : KF} {e a b e1 e2 iter : Expr} {es : List Expr} {env env' : List Sl} {d : PyData} {ds rs : List PyData} {pos p p1 p2 p3 p4 : Pos} {E : DE} {x y : Str} {c m k n : Nat} {body rest sts : List Stmt} {t u : Tr} {ts us : List Tr}
theorem tr_e (h : PE X e (tE K true env d)) : PE X e (tTr K env (.leaf d)) := pmono h fun σ H Q ⟨F0, H0, F, ok, q⟩ => ⟨F0, H0, F, ok, fun v F1 H1 g x => q v F1 H1 [] g (.leaf x) ⟨List.nodup_nil, fun a ha => by cases ha⟩⟩
theorem tr_o (h : PE X e (tO K env ds)) (hl : ds.length ≤ 1000000) : PE X e (tTr K env (.node (ds.map .leaf))) := pmono h fun σ H Q ⟨F0, H0, F, ok, q⟩ => ⟨F0, H0, F, ok, fun p vs F1 H1 g h1 h2 h3 h4 =>
  q (.ref p) F1 H1 [p] g (.node h3 (by rw [h4.length]; exact hl) (TrAll.leaves h4)) ⟨List.nodup_cons.mpr ⟨by simp, List.nodup_nil⟩, fun a ha => by
    rw [List.mem_singleton.mp ha]
    exact ⟨h1, h2, vs, h3, by rw [h4.length]; exact hl⟩⟩⟩
/-- a new list of data -/
theorem tr_oG {α : Type} {enc : α → PyData} {zs : List α} (h : PE X e (tO K env (zs.map enc))) (hl : zs.length ≤ 1000000) : PE X e (tTr K env (.node (zs.map fun z => .leaf (enc z)))) := by
  have := tr_o h (by rw [List.length_map]; exact hl)
  rwa [List.map_map] at this
theorem tra_nil : PA X [] (tTrA K env []) := pamono pa_nil fun σ H Q ⟨F0, H0, F, ok, q⟩ => q [] F H [] (Grow.refl ok.g.fh) .nil ⟨List.nodup_nil, fun a ha => by cases ha⟩
theorem tra_cons (ha : PE X a (tTr K env t)) (hs : PA X es (tTrA K env ts)) (hst : starEach (a :: es) X.env = (false, eval a X.env) :: starEach es X.env := by rfl) : PA X (a :: es) (tTrA K env (t :: ts)) :=
  pamono (pa_cons ha hs hst) fun σ H Q ⟨F0, H0, F, ok, q⟩ => ⟨F0, H0, F, ok, fun v F1 H1 A g1 x1 n1 => ⟨F0, H0, F1, ok.grow g1, fun vs F2 H2 B g2 x2 n2 => q (v :: vs) F2 H2 (A ++ B) (g1.trans g2) (.cons (x1.up g2.ff fun a _ us h => g2.hh _ _ h) x2)
    ⟨List.nodup_append.mpr ⟨n1.1, n2.1, fun p hp r hr z => by
      subst z
      obtain ⟨_, _, us, h3, _⟩ := n1.2 p hp
      rw [(n2.2 p hr).1] at h3; cases h3⟩, fun p hp => by
      rcases List.mem_append.mp hp with hp | hp
      · obtain ⟨h1, h2, us, h3, h4⟩ := n1.2 p hp
        exact ⟨h1, g2.old p h2 (by rw [h3]; simp), us, g2.hh _ _ h3, h4⟩
      · obtain ⟨h1, h2⟩ := n2.2 p hp
        exact ⟨g1.hh.back h1, h2⟩⟩⟩⟩
theorem tr_list (h : PA X es (tTrA K env ts)) (hl : ts.length ≤ 1000000) : PE X (.List es pos) (tTr K env (.node ts)) :=
  pmono (pe_lst h) fun σ H Q ⟨F0, H0, F, ok, q⟩ => ⟨F0, H0, F, ok, fun vs F1 H1 A g1 x1 n1 => ⟨by
    have := x1.length
    have := sizeLine_eq
    omega, fun p hp => q (.ref p) F1 (upd H1 p (.lst vs)) (p :: A) (g1.trans (Grow.own g1.fh hp)) (.node upd_same (by rw [x1.length]; exact hl) (x1.up (Ex.refl _) fun a ha us h => by
      rw [upd_ne (ne_of_none h hp)]; exact h)) ⟨List.nodup_cons.mpr ⟨(fun hm => by
        obtain ⟨_, _, us, h3, _⟩ := n1.2 p hm
        rw [hp] at h3; cases h3), n1.1⟩, fun a ha => by
      rcases List.mem_cons.mp ha with rfl | ha
      · exact ⟨g1.hh.back hp, g1.fh.back hp, vs, upd_same, by rw [x1.length]; exact hl⟩
      · obtain ⟨h1, h2, us, h3, h4⟩ := n1.2 a ha
        exact ⟨h1, h2, us, by rw [upd_ne (ne_of_none h3 hp)]; exact h3, h4⟩⟩⟩⟩
theorem tr_tup {x1} (h : PA X es (tTrA K env ts)) (hl : ts.length ≤ 1000000) : PE X (.Tuple es x1 pos) (tTr K env (.tup ts)) :=
  pmono (pe_tup h) fun σ H Q ⟨F0, H0, F, ok, q⟩ => ⟨F0, H0, F, ok, fun vs F1 H1 A g1 x1 n1 => ⟨by
    have := x1.length
    have := sizeLine_eq
    omega, fun p hp => q (.ref p) (upd F1 p (.tup vs)) (upd H1 p (.tup vs)) A (g1.trans (Grow.new g1.fh hp)) (.tup (.inl (.inl upd_same)) (x1.up (Ex.new (g1.fh.back hp)) fun a ha us h => by
      rw [upd_ne (ne_of_none h hp)]; exact h)) ⟨n1.1, fun a ha => by
        obtain ⟨h1, h2, us, h3, h4⟩ := n1.2 a ha
        have hne := ne_of_none h3 hp
        exact ⟨h1, by rw [upd_ne hne]; exact h2, us, by rw [upd_ne hne]; exact h3, h4⟩⟩⟩⟩
theorem tr_call {R : List PyData → RS → Prop} (D : Def X.prog X.w X.K X.mg X.base k x (spD X.K n R)) (hr : Room k X.A) (ha : PA X (e :: es) (tA X.K true env ds)) (hn : ds.length = n) (hR : R ds (.tre t)) (hg : Gl X x := by rfl) (hdb : (x == ("__debug__" : Str)) = false := by decide)
    (he : starEach (e :: es) X.env = (false, eval e X.env) :: starEach es X.env := by rfl) (hpl : (backTo pos (starEach es X.env)).any (·.1) = false := by rfl) : PE X (.Call (.Name x p) (e :: es) [] pos) (tTr X.K env t) := by
  obtain ⟨f, fd, ps, Fo, hm, hk, hb⟩ := D
  exact pmono (pe_call (E := E0) Fo hr hg hm hk hb .nil pass0 ha hdb he hpl) fun σ H Q ⟨F0, H0, F, ok, q⟩ => ⟨F0, H0, F, ok, fun vs F1 H1 g1 x1 => ⟨F1, ds, .tre t, g1.fh, by rw [List.append_nil]; exact x1, hn, hR, fun v F2 H2 A g2 x2 n2 => q v F2 H2 A (g1.trans g2) x2 (n2.back g1.hh)⟩⟩
theorem tr_eq (h : PE X e (tTr K env t)) (q : t = u) : PE X e (tTr K env u) := q ▸ h
/-- a new tree as plain data, as a new list of data -/
theorem e_Tr {m : Bool} (h : PE X e (tTr K env t)) (hd : TrD t d) : PE X e (tE K m env d) := pmono h fun σ H Q ⟨F0, H0, F, ok, q⟩ => ⟨F0, H0, F, ok, fun v F1 H1 A g x1 n1 =>
  q v (frzA F1 H1 A) H1 (g.frzA fun a ha => (n1.2 a ha).1) (seldn (frzA_le g.fh) (TrAt.dq (frzA_ex g.fh) t v A d x1 hd fun a ha us h => by rw [frzA_in ha]; exact h))⟩
theorem o_Tr (h : PE X e (tTr K env (.node ts))) (hd : TrDs ts ds) : PE X e (tO K env ds) := pmono h fun σ H Q ⟨F0, H0, F, ok, q⟩ => ⟨F0, H0, F, ok, fun v F1 H1 A g x1 n1 => by
  cases x1 with
  | @node p vs _ B h1 hl h2 =>
    obtain ⟨hp, hn⟩ := List.nodup_cons.mp n1.1
    obtain ⟨a1, a2, _⟩ := n1.2 p (List.mem_cons_self ..)
    exact q p vs (frzA F1 H1 B) H1 (g.frzA fun a ha => (n1.2 a (List.mem_cons_of_mem _ ha)).1) a1 (by rw [frzA_out hp]; exact a2) h1 (TrAll.dq (frzA_ex g.fh) ts vs B ds h2 hd fun a ha us h => by rw [frzA_in ha]; exact h)⟩
end

/-! ### slots -/
section
variable {K : KF} {F F' H H' H0 F0 F1 H1 : Hp} {Φ Φ' : Reg} {env : List Sl} {σ : St} {c : Nat} {v w : V} {t t' u : Tr} {A B : List Addr}
/-- the trees of the slots stand at A -/
def TrFA (K : KF) (env : List Sl) (σ : St) (F H : Hp) (Φ : Reg) (A : Nat → List Addr) : Prop := (∀ (i : Nat) (v : V) (t : Tr), env[i]? = some (.tr v t) → σ[i]? = some (some v) ∧ TrAt K F H v t (A i) ∧ (A i).Nodup ∧ ∀ a ∈ A i, Φ a = some trQ) ∧
  ∀ (i j : Nat) (v w : V) (t u : Tr), i ≠ j → env[i]? = some (.tr v t) → env[j]? = some (.tr w u) → ∀ a ∈ A i, a ∉ A j
theorem Mes.setTr {i : Nat} {x : Option V} (m : Mes K H0 env σ F H Φ c) (htr : TrF K (env.set i (.tr v t)) (σ.set i x) F H Φ) : Mes K H0 (env.set i (.tr v t)) (σ.set i x) F H Φ c := by
  have key : ∀ j q, OwnS (env.set i (.tr v t)) (σ.set i x) j q → i ≠ j ∧ OwnS env σ j q := fun j q ⟨h1, h2⟩ => by
    have hne : i ≠ j := fun z => by
      subst z
      rcases h2 with ⟨ds, h2⟩ | ⟨t, ds, h2⟩
      · rcases get_set_cases h2 with ⟨_, _, q⟩ | ⟨q, _⟩
        · cases q
        · exact q rfl
      · rcases get_set_cases h2 with ⟨_, _, q⟩ | ⟨q, _⟩
        · cases q
        · exact q rfl
    rw [List.getElem?_set_ne hne] at h1 h2
    exact ⟨hne, h1, h2⟩
  refine ⟨m.reg, fun j q h => m.own j q (key j q h).2, fun j k q h1 h2 => m.sep j k q (key j q h1).2 (key k q h2).2, fun j e c' t d h => ?_, fun j a ws e c' n t h => ?_, fun j t ds h => ?_, fun j e c' n m' dss h => ?_, htr⟩
  · rcases get_set_cases h with ⟨_, _, q⟩ | ⟨ne, q⟩
    · cases q
    · rw [List.getElem?_set_ne ne]; exact m.mes j e c' t d q
  · rcases get_set_cases h with ⟨_, _, q⟩ | ⟨ne, q⟩
    · cases q
    · rw [List.getElem?_set_ne ne]; exact m.itm j a ws e c' n t q
  · rcases get_set_cases h with ⟨_, _, q⟩ | ⟨ne, q⟩
    · cases q
    · rw [List.getElem?_set_ne ne]; exact m.ownN j t ds q
  · rcases get_set_cases h with ⟨_, _, q⟩ | ⟨ne, q⟩
    · cases q
    · rw [List.getElem?_set_ne ne]; exact m.tab j e c' n m' dss q
theorem set_self_st {i : Nat} (h : σ[i]? = some (some v)) : σ.set i (some v) = σ := by
  obtain ⟨q1, q2⟩ := List.getElem?_eq_some_iff.mp h
  rw [← q2, List.set_getElem_self]
/-- slot i gets the tree t at the nodes B, that no other slot has -/
theorem TrFA.set {A : Nat → List Addr} {i : Nat} (h : TrFA K env σ F H Φ A) (hi : i < σ.length) (ht : TrAt K F' H' v t B) (nd : B.Nodup) (hb : ∀ a ∈ B, Φ' a = some trQ) (hs : ∀ a ∈ B, ∀ (j : Nat) (w : V) (u : Tr), i ≠ j → env[j]? = some (.tr w u) → a ∉ A j) (xf : Ex F F')
    (xp : ∀ (j : Nat) (w : V) (u : Tr), i ≠ j → env[j]? = some (.tr w u) → ∀ a ∈ A j, Φ' a = some trQ ∧ ∀ vs, H a = some (.lst vs) → H' a = some (.lst vs)) : TrFA K (env.set i (.tr v t)) (σ.set i (some v)) F' H' Φ' fun j => if j = i then B else A j := by
  obtain ⟨h1, h2⟩ := h
  refine ⟨fun j w u hj => ?_, fun j k w w' u u' hne hj hk => ?_⟩
  · rcases get_set_cases hj with ⟨e, _, q⟩ | ⟨ne, q⟩
    · cases q
      subst e
      simp only [if_true]
      exact ⟨List.getElem?_set_self hi, ht, nd, hb⟩
    · simp only [if_neg (Ne.symm ne)]
      obtain ⟨b1, b2, b3, b4⟩ := h1 j w u q
      exact ⟨by rw [List.getElem?_set_ne ne]; exact b1, b2.up xf fun a ha vs hv => (xp j w u ne q a ha).2 vs hv, b3, fun a ha => (xp j w u ne q a ha).1⟩
  · rcases get_set_cases hj with ⟨e, _, q⟩ | ⟨ne, q⟩
    · rcases get_set_cases hk with ⟨e', _, q'⟩ | ⟨ne', q'⟩
      · exact absurd (e.symm.trans e') hne
      · subst e
        simp only [if_true, if_neg (Ne.symm ne')]
        exact fun a ha => hs a ha k w' u' ne' q'
    · rcases get_set_cases hk with ⟨e', _, q'⟩ | ⟨ne', q'⟩
      · subst e'
        simp only [if_true, if_neg (Ne.symm ne)]
        exact fun a ha hb => hs a hb j w u ne q ha
      · simp only [if_neg (Ne.symm ne), if_neg (Ne.symm ne')]
        exact h2 j k w w' u u' hne q q'
open Classical in
noncomputable def addA (Φ : Reg) (A : List Addr) : Reg := fun a => match Φ a with
  | some q => some q
  | none => if a ∈ A then some trQ else none
/-- the new lists A are from now on lists of trees -/
theorem Mes.addA (m : Mes K H0 env σ F H Φ c) (ok : Ok K F0 H0 env σ F H) (g : Grow F H F1 H1) (hn : NewA H F1 H1 A) : Mes K H0 env σ F1 H1 (D3.addA Φ A) c ∧ ExR Φ (D3.addA Φ A) ∧ (∀ a ∈ A, D3.addA Φ A a = some trQ) := by
  have xr : ExR Φ (D3.addA Φ A) := fun a q h => by unfold D3.addA; rw [h]
  have hA : ∀ a ∈ A, D3.addA Φ A a = some trQ := fun a ha => by
    unfold D3.addA
    rw [m.free (hn.2 a ha).1]
    simp [ha]
  refine ⟨m.growR g ok.g.fh ok.g.hh xr fun a e n t h1 h2 => ?_, xr, hA⟩
  unfold D3.addA at h1
  rw [h2] at h1
  simp only at h1
  split at h1
  · rename_i ha
    cases h1
    obtain ⟨b1, b2, vs, b3, b4⟩ := hn.2 a ha
    exact ⟨b1, fun z => (by cases z), fun _ => b2, vs, b3, Nat.le_trans b4 (Nat.le_add_right _ _), fun _ _ => trivial⟩
  · cases h1
/-- a new tree into a slot -/
theorem Ok.newTr (ok : Ok K F0 H0 env σ F H) (g : Grow F H F1 H1) (ht : TrAt K F1 H1 v t A) (hn : NewA H F1 H1 A) (i : Nat) : Ok K F0 H0 (env.set i (.tr v t)) (σ.set i (some v)) F1 H1 := by
  have o1 := ok.grow g
  by_cases hi : i < σ.length
  · obtain ⟨Φ, c, m⟩ := ok.tre
    obtain ⟨m1, xr, hA⟩ := m.addA ok g hn
    obtain ⟨B, hB⟩ := m.tr
    refine o1.setT trivial ⟨_, c, m1.setTr ⟨_, TrFA.set (A := B) hB hi ht hn.1 hA (fun a ha j w u _ hj hb => ?_) g.ff fun j w u _ hj a ha => ⟨xr _ _ ((hB.1 j w u hj).2.2.2 a ha), fun vs h => g.hh _ _ h⟩⟩⟩
    obtain ⟨_, b2, _⟩ := hB.1 j w u hj
    obtain ⟨us, hu, _⟩ := TrAt.lst _ _ _ b2 a hb
    rw [(hn.2 a ha).1] at hu; cases hu
  · rw [set_big hi, set_big (by rw [← ok.len]; exact hi)]
    exact o1
theorem Ok.trG {i : Nat} (ok : Ok K F0 H0 env σ F H) (ho : env[i]? = some (.tr v t)) : ∃ Φ c A, Mes K H0 env σ F H Φ c ∧ TrFA K env σ F H Φ A ∧ σ[i]? = some (some v) ∧ TrAt K F H v t (A i) ∧ (A i).Nodup ∧ ∀ a ∈ A i, Φ a = some trQ ∧ H0 a = none ∧ F a = none := by
  obtain ⟨Φ, c, m⟩ := ok.tre
  obtain ⟨A, hA⟩ := m.tr
  obtain ⟨h1, h2, h3, h4⟩ := hA.1 i v t ho
  refine ⟨Φ, c, A, m, hA, h1, h2, h3, fun a ha => ?_⟩
  obtain ⟨r1, _, r3, _⟩ := m.reg a _ _ _ (h4 a ha)
  exact ⟨h4 a ha, r1, r3 (by decide)⟩
/-- no slot has anything of the time of the trees -/
def trFree : Sl → Bool
  | .mes e _ _ _ => decide (e < 77)
  | .itm _ _ e _ _ _ => decide (e < 77)
  | .tab e _ _ _ _ => decide (e < 77)
  | _ => true
theorem trFree_get {i : Nat} {s : Sl} (h : env.all trFree = true) (hs : env[i]? = some s) : trFree s = true := List.all_eq_true.mp h s (List.mem_of_getElem? hs)
open Classical in
/-- of the time of the trees only the lists of slots but i -/
noncomputable def cutR (env : List Sl) (A : Nat → List Addr) (i : Nat) (Φ : Reg) : Reg := fun a => match Φ a with
  | some (e, n, t) => if e = 77 then (if ∃ (j : Nat) (w : V) (u : Tr), i ≠ j ∧ env[j]? = some (.tr w u) ∧ a ∈ A j then some trQ else none) else some (e, n, t)
  | none => none
theorem cutR_none {A : Nat → List Addr} {i : Nat} {a : Addr} (h : Φ a = none) : cutR env A i Φ a = none := by unfold cutR; rw [h]
theorem cutR_keep {A : Nat → List Addr} {i : Nat} {a : Addr} {e n : Nat} {u : Ty} (h : Φ a = some (e, n, u)) (he : e ≠ 77) : cutR env A i Φ a = some (e, n, u) := by unfold cutR; rw [h]; simp [he]
theorem cutR_tr {A : Nat → List Addr} {i j : Nat} {a : Addr} (h : Φ a = some trQ) (hne : i ≠ j) (hj : env[j]? = some (.tr w u)) (ha : a ∈ A j) : cutR env A i Φ a = some trQ := by
  unfold cutR trQ at *
  rw [h]
  simp only [if_true]
  rw [if_pos ⟨j, w, u, hne, hj, ha⟩]
theorem cutR_get {A : Nat → List Addr} {i : Nat} {a : Addr} {e n : Nat} {u : Ty} (h : cutR env A i Φ a = some (e, n, u)) : (e ≠ 77 ∧ Φ a = some (e, n, u)) ∨ (e = 77 ∧ n = 1000000 ∧ u = .any ∧ ∃ (j : Nat) (w : V) (u : Tr), i ≠ j ∧ env[j]? = some (.tr w u) ∧ a ∈ A j) := by
  unfold cutR at h
  cases hq : Φ a with
  | none => rw [hq] at h; cases h
  | some z =>
    obtain ⟨e0, n0, t0⟩ := z
    rw [hq] at h
    simp only at h
    split at h
    · split at h
      · rename_i hx
        cases h
        exact .inr ⟨rfl, rfl, rfl, hx⟩
      · cases h
    · rename_i he
      cases h
      exact .inl ⟨he, rfl⟩
/-- the tree of a slot is given away: data from now on -/
theorem Ok.frzTr {i : Nat} {d : PyData} (ok : Ok K F0 H0 env σ F H) (ho : env[i]? = some (.tr v t)) (hd : TrD t d) (hfree : env.all trFree = true) : ∃ F', Ok K F0 H0 (env.set i (.dat d)) σ F' H ∧ Ex F F' := by
  obtain ⟨Φ, c, A, m, hA, s1, s2, s3, s4⟩ := ok.trG ho
  have xf : Ex F (frzA F H (A i)) := frzA_ex ok.g.fh
  have xh : Ex (frzA F H (A i)) H := frzA_le ok.g.fh
  have hdq : Dq K (frzA F H (A i)) v d := TrAt.dq xf t v (A i) d s2 hd fun a ha us h => by rw [frzA_in ha]; exact h
  have g1 : Grow F0 H0 (frzA F H (A i)) H := ⟨ok.g.ff.trans xf, ok.g.hh, xh, fun a h0 h1 => by
    rw [frzA_out (fun ha => h1 (s4 a ha).2.1)]; exact ok.g.old a h0 h1⟩
  have own_out : ∀ p, Φ p = none → p ∉ A i := fun p h ha => by
    rw [(s4 p ha).1] at h; cases h
  have vt : ∀ e, e ≠ 77 → ∀ (u : Ty) w, VT K F Φ e u w → VT K (frzA F H (A i)) (cutR env A i Φ) e u w := fun e he => VT.upE (fun a us z => ex_t xf z) fun a n u z => cutR_keep z he
  have os : ∀ j p, OwnS (env.set i (.dat d)) σ j p → OwnS env σ j p := fun j p h => (OwnS.of_setE (s := .dat d) trivial h).2
  have mi : ∀ e, e < 77 → Ex (mixH F Φ e H) (mixH (frzA F H (A i)) (cutR env A i Φ) e H) := fun e he a o h => by
    unfold mixH at h ⊢
    cases hq : Φ a with
    | none => rw [hq] at h; rw [cutR_none hq]; exact xf _ _ h
    | some z =>
      obtain ⟨e0, n0, t0⟩ := z
      rw [hq] at h
      simp only at h
      by_cases h77 : e0 = 77
      · rw [if_neg (by omega)] at h
        cases hc : cutR env A i Φ a with
        | none => exact xf _ _ h
        | some z =>
          obtain ⟨e1, n1, t1⟩ := z
          simp only
          rcases cutR_get hc with ⟨y1, y2⟩ | ⟨y1, _⟩
          · rw [hq] at y2; cases y2; exact absurd h77 y1
          · rw [if_neg (by omega)]; exact xf _ _ h
      · rw [cutR_keep hq h77]
        simp only
        split at h
        · rename_i hle; rw [if_pos hle]; exact h
        · rename_i hle; rw [if_neg hle]; exact xf _ _ h
  refine ⟨frzA F H (A i), ⟨g1, fun j d' h => ?_, fun j ds h => ?_, fun j k ds es p h1 h2 => ?_, fun j ns h => ?_, fun j a dd d' h => ?_, by rw [List.length_set, ok.len], cutR env A i Φ, c, fun a e n u h => ?_, fun j p h => ?_, fun j k p h1 h2 => m.sep j k p (os j p h1) (os k p h2), fun j e c' u d' h => ?_, fun j a ws e c' n u h => ?_, fun j u ds h => ?_, fun j e c' n m' dss h => ?_, ⟨A, fun j w u h => ?_, fun j k w w' u u' hne h1 h2 => ?_⟩⟩, xf⟩
  · rcases get_set_cases h with ⟨e, _, q⟩ | ⟨ne, q⟩
    · cases q; subst e
      exact ⟨v, s1, hdq⟩
    · obtain ⟨w, b1, b2⟩ := ok.dat j d' q
      exact ⟨w, b1, b2.up xf⟩
  · rcases get_set_cases h with ⟨_, _, q⟩ | ⟨ne, q⟩
    · cases q
    · obtain ⟨p, us, b1, b2, b3, b4, b5⟩ := ok.own j ds q
      exact ⟨p, us, b1, by rw [frzA_out (own_out p (m.own j p ⟨b1, .inl ⟨ds, q⟩⟩).1)]; exact b2, b3, b4, b5.up xf⟩
  · rcases get_set_cases h1 with ⟨_, _, q⟩ | ⟨ne, q⟩
    · cases q
    · rcases get_set_cases h2 with ⟨_, _, q'⟩ | ⟨ne, q'⟩
      · cases q'
      · exact ok.sep j k ds es p q q'
  · rcases get_set_cases h with ⟨_, _, q⟩ | ⟨ne, q⟩
    · cases q
    · obtain ⟨a, b1, b2⟩ := ok.scr j ns q
      exact ⟨a, b1, ex_l xf b2⟩
  · rcases get_set_cases h with ⟨_, _, q⟩ | ⟨ne, q⟩
    · cases q
    · obtain ⟨w, b1, b2, b3⟩ := ok.exc j a dd d' q
      exact ⟨w, b1, b2, b3.up xf⟩
  · rcases cutR_get h with ⟨h7, hq⟩ | ⟨h7, hn, hu, j, w, u', hne, hj, ha⟩
    · obtain ⟨b1, b2, b3, vs, b4, b5, b6⟩ := m.reg a e n u hq
      have hout : a ∉ A i := fun ha => by rw [(s4 a ha).1] at hq; cases hq; exact h7 rfl
      exact ⟨b1, fun z => by obtain ⟨us, u1, u2⟩ := b2 z; exact ⟨us, xf _ _ u1, u2⟩, fun z => by rw [frzA_out hout]; exact b3 z, vs, b4, b5, fun w hw => vt e h7 _ _ (b6 w hw)⟩
    · subst h7 hn hu
      obtain ⟨_, _, _, q4⟩ := hA.1 j w u' hj
      obtain ⟨b1, b2, b3, vs, b4, b5, b6⟩ := m.reg a _ _ _ (q4 a ha)
      have hout : a ∉ A i := fun hi => hA.2 i j v w t u' hne ho hj a hi ha
      exact ⟨b1, fun z => (by cases z), fun z => by rw [frzA_out hout]; exact b3 z, vs, b4, b5, fun _ _ => trivial⟩
  · obtain ⟨b1, b2, b3, b4⟩ := m.own j p (os j p h)
    exact ⟨cutR_none b1, by rw [frzA_out (own_out p b1)]; exact b2, b3, b4⟩
  · rcases get_set_cases h with ⟨_, _, q⟩ | ⟨ne, q⟩
    · cases q
    · have hf := trFree_get hfree q
      have hlt : e < 77 := of_decide_eq_true hf
      obtain ⟨b1, w, b2, b3, b4⟩ := m.mes j e c' u d' q
      exact ⟨b1, w, b2, vt e (by omega) _ _ b3, fun x hx => (b4 x hx).up (mi e hlt)⟩
  · rcases get_set_cases h with ⟨_, _, q⟩ | ⟨ne, q⟩
    · cases q
    · have hf := trFree_get hfree q
      have hlt : e < 77 := of_decide_eq_true hf
      obtain ⟨b1, b2, b3, w, b4, b5⟩ := m.itm j a ws e c' n u q
      exact ⟨b1, b2, cutR_keep b3 (by omega), w, b4, vt e (by omega) _ _ b5⟩
  · rcases get_set_cases h with ⟨_, _, q⟩ | ⟨ne, q⟩
    · cases q
    · obtain ⟨p, us, b1, b2, b3, b4⟩ := m.ownN j u ds q
      exact ⟨p, us, b1, b2, b3.up xf, fun w hw => vt 0 (by decide) _ _ (b4 w hw)⟩
  · rcases get_set_cases h with ⟨_, _, q⟩ | ⟨ne, q⟩
    · cases q
    · have hf := trFree_get hfree q
      have hlt : e < 77 := of_decide_eq_true hf
      obtain ⟨b1, b0, q', vs', b2, b3, b4, b5⟩ := m.tab j e c' n m' dss q
      exact ⟨b1, b0, q', vs', b2, cutR_keep b3 (by omega), b4, b5.up xf (fun p z => cutR_keep z (by omega)) (fun _ _ _ z => z)⟩
  · rcases get_set_cases h with ⟨_, _, q⟩ | ⟨ne, q⟩
    · cases q
    · obtain ⟨b1, b2, b3, b4⟩ := hA.1 j w u q
      exact ⟨b1, b2.up xf fun _ _ _ z => z, b3, fun a ha => cutR_tr (b4 a ha) ne q ha⟩
  · rcases get_set_cases h1 with ⟨_, _, q⟩ | ⟨ne, q⟩
    · cases q
    · rcases get_set_cases h2 with ⟨_, _, q'⟩ | ⟨ne, q'⟩
      · cases q'
      · exact hA.2 j k w w' u u' hne q q'
end
section
variable {X : Cx} {K : KF} {e a b e1 e2 iter : Expr} {es : List Expr} {env env' : List Sl} {d d1 : PyData} {ds rs : List PyData} {pos p p1 p2 p3 p4 : Pos} {E : DE} {x y : Str} {c m k n : Nat} {body rest sts : List Stmt} {v w : V} {t u : Tr} {ts us : List Tr}
/-- a slot's tree is read as data -/
theorem e_tr (i : Nat) (hi : X.N[i]? = some x) (hv : Vis X.env.scope x) (ho : env[i]? = some (.tr v t)) (hd : TrD t d) (hdb : (x == ("__debug__" : Str)) = false := by decide) (hcd : (x == ("__classdict__" : Str)) = false := by decide) : PE X (.Name x pos) (tE X.K false env d) :=
  pmono (pe_var hi hv hdb hcd) fun σ H Q ⟨F0, H0, F, ok, q⟩ => by
    obtain ⟨Φ, c, A, m, hA, s1, s2, s3, s4⟩ := ok.trG ho
    exact ⟨v, s1, q v F H (Grow.refl ok.g.fh) (TrAt.dq ok.g.fh t v (A i) d s2 hd fun _ _ _ h => h)⟩
theorem l_tr (i : Nat) (hi : X.N[i]? = some x) (hv : Vis X.env.scope x) (ho : env[i]? = some (.tr v (.node (ds.map .leaf)))) (hdb : (x == ("__debug__" : Str)) = false := by decide) (hcd : (x == ("__classdict__" : Str)) = false := by decide) : PE X (.Name x pos) (tL X.K env ds) :=
  pmono (pe_var hi hv hdb hcd) fun σ H Q ⟨F0, H0, F, ok, q⟩ => by
    obtain ⟨Φ, c, A, m, hA, s1, s2, s3, s4⟩ := ok.trG ho
    generalize A i = AA at s2
    have : ∀ (ds : List PyData) (vs : List V) (B : List Addr), TrAll X.K F H vs (ds.map .leaf) B → DqAll X.K F vs ds := by
      intro ds
      induction ds with
      | nil => intro vs B h; cases h with | nil => exact .nil
      | cons d ds ih => intro vs B h; cases h with | cons g1 g2 => cases g1 with | leaf g => exact .cons g (ih _ _ g2)
    cases s2 with
    | @node a vs _ B h1 hl h2 => exact ⟨.ref a, s1, q a vs F H (Grow.refl ok.g.fh) h1 (this _ _ _ h2)⟩
theorem t_softTr {q : Bool} (i : Nat) (ho : env[i]? = some (.tr v t)) (hd : TrD t d) (hfree : env.all trFree = true) (h : PT X e (tT K (env.set i (.dat d)) q)) : PT X e (tT K env q) := ptmono h fun σ H Q ⟨F0, H0, F, ok, r⟩ => by
  obtain ⟨F', ok', _⟩ := ok.frzTr ho hd hfree
  exact ⟨F0, H0, F', ok', fun F1 H1 g => r F H1 (Grow.junk ok.g.fh g.hh)⟩
theorem e_softTr {q : Bool} (i : Nat) (ho : env[i]? = some (.tr v t)) (hd : TrD t d) (hfree : env.all trFree = true) (hs : scalD d1 = true) (h : PE X e (tE K true (env.set i (.dat d)) d1)) : PE X e (tE K q env d1) := pmono h fun σ H Q ⟨F0, H0, F, ok, r⟩ => by
  obtain ⟨F', ok', _⟩ := ok.frzTr ho hd hfree
  exact ⟨F0, H0, F', ok', fun v F1 H1 g x => r v F H1 (Grow.junk ok.g.fh g.hh) (Dq.scal (show Dq K F1 v d1 from x) hs)⟩
theorem s_frzTr (i : Nat) (ho : env[i]? = some (.tr v t)) (hd : TrD t d) (hfree : env.all trFree = true) (h : PSs X sts (tS K (env.set i (.dat d)) E)) : PSs X sts (tS K env E) := pssmono h fun D σ H ⟨F0, H0, F, ok, r⟩ => by
  obtain ⟨F', ok', _⟩ := ok.frzTr ho hd hfree
  exact ⟨F0, H0, F', ok', r⟩
/-- x = e, e a new tree -/
theorem c_setTr (i : Nat) (hN : X.N.Nodup) (hi : X.N[i]? = some x) (he : PE X e (tTr K env t)) (h : ∀ v, PSs X rest (tS K (env.set i (.tr v t)) E)) (hx : Loc X.env.scope x := by first | exact .inl rfl | exact .inr rfl)
    (hs : swapsWith e (some (.Name x p1)) pos.line X.env = pure false := by rfl) (hf : X.fn x = true ∨ X.env.scope.names.lookup x = some .local := by first | exact .inl rfl | exact .inr rfl) : PSs X (.Assign [.Name x p1] e pos :: rest) (tS K env E) :=
  s_cons (M := fun e => ∃ v, e = env.set i (.tr v t)) (psmono (ps_set hN hi hx he hs hf) fun D σ H ⟨F0, H0, F, ok, n, _⟩ => ⟨F0, H0, F, ok, fun v F1 H1 A g1 x1 n1 => n _ _ F1 H1 ⟨v, rfl⟩ (ok.newTr g1 x1 n1 i)⟩) fun e ⟨v, q⟩ => q ▸ h v
theorem s_retTr (he : PE X e (tTr K env t)) (h : E.rt (.tre t)) : PS X (.Return (some e) pos) (tS K env E) :=
  psmono (ps_ret he) fun D σ H ⟨F0, H0, F, ok, n, b, c, r⟩ => ⟨F0, H0, F, ok, fun v F1 H1 A g1 x1 n1 => r _ h v F1 H1 A (ok.g.trans g1) x1 (n1.back ok.g.hh)⟩
end
end D3
namespace D3
open PySem PySem.Spec L2 PyProof.Rows

/-! ### a place in a tree -/
section
variable {K : KF} {F F2 F' H H' H2 H0 F0 F1 H1 : Hp} {Φ : Reg} {env : List Sl} {σ : St} {c : Nat} {v w : V} {s t u : Tr} {ts us : List Tr} {A B C : List Addr} {up : Tr → Tr}
theorem TrAll.at : ∀ {ts : List Tr} {k : Nat} {s : Tr} {vs : List V} {A : List Addr}, k < ts.length → TrAll K F H vs (ts.set k s) A → ∃ u B C, vs[k]? = some u ∧ TrAt K F H u s B ∧ A.Perm (B ++ C) ∧ ∀ {F2 H2 : Hp} {s' : Tr} {B' : List Addr}, Ex F F2 → (∀ a ∈ C, ∀ us, H a = some (.lst us) → H2 a = some (.lst us)) → TrAt K F2 H2 u s' B' → ∃ A', TrAll K F2 H2 vs (ts.set k s') A' ∧ A'.Perm (B' ++ C)
  | [], _, _, _, _, hk, _ => absurd hk (Nat.not_lt_zero _)
  | t :: ts, 0, s, vs, A, _, h => by
    cases h with
    | @cons v vs _ _ B C h1 h2 => exact ⟨v, B, C, rfl, h1, List.Perm.refl _, fun {F2 H2 s' B'} xf st g => ⟨B' ++ C, .cons g (h2.up xf st), List.Perm.refl _⟩⟩
  | t :: ts, k + 1, s, vs, A, hk, h => by
    cases h with
    | @cons v vs _ _ A1 A2 h1 h2 =>
      obtain ⟨u, B, C, e1, e2, e3, e4⟩ := TrAll.at (k := k) (by simpa using hk) h2
      refine ⟨u, B, A1 ++ C, by simpa using e1, e2, (e3.append_left A1).trans (List.perm_append_comm_assoc A1 B C), fun {F2 H2 s' B'} xf st g => ?_⟩
      obtain ⟨A', g1, g2⟩ := e4 xf (fun a ha => st a (List.mem_append_right _ ha)) g
      exact ⟨A1 ++ A', .cons (h1.up xf fun a ha => st a (List.mem_append_left _ ha)) g1, (g2.append_left A1).trans (List.perm_append_comm_assoc A1 B' C)⟩
/-- w is the value at the place up of the tree -/
def Foc (K : KF) (F H : Hp) (v : V) (up : Tr → Tr) (s : Tr) (A : List Addr) (w : V) (B C : List Addr) : Prop := TrAt K F H w s B ∧ A.Perm (B ++ C) ∧ ∀ (F2 H2 : Hp) (s' : Tr) (B' : List Addr), Ex F F2 → (∀ a ∈ C, ∀ us, H a = some (.lst us) → H2 a = some (.lst us)) → TrAt K F2 H2 w s' B' → ∃ A', TrAt K F2 H2 v (up s') A' ∧ A'.Perm (B' ++ C)
structure UpOk (up : Tr → Tr) : Prop where
  go : ∀ {K : KF} {F H : Hp} {v : V} {s : Tr} {A : List Addr}, TrAt K F H v (up s) A → ∃ w B C, Foc K F H v up s A w B C
theorem Foc.up2 (h : Foc K F H v up s A w B C) (xf : Ex F F1) (xh : Ex H H1) : Foc K F1 H1 v up s A w B C := by
  obtain ⟨h1, h2, h3⟩ := h
  exact ⟨h1.up xf fun a _ us z => xh _ _ z, h2, fun F2 H2 s' B' x2 st g => h3 F2 H2 s' B' (xf.trans x2) (fun a ha us z => st a ha us (xh _ _ z)) g⟩
theorem foc_id (h : TrAt K F H v s A) : Foc K F H v (fun z => z) s A v A [] := ⟨h, by rw [List.append_nil], fun F2 H2 s' B' _ _ g => ⟨B', g, by rw [List.append_nil]⟩⟩
theorem foc_node {k : Nat} (h : Foc K F H v up (.node ts) A w B C) (hk : ts[k]? = some s) : ∃ p vs u B' C', w = .ref p ∧ H p = some (.lst vs) ∧ vs.length = ts.length ∧ vs[k]? = some u ∧ Foc K F H v (fun z => up (.node (ts.set k z))) s A u B' C' := by
  obtain ⟨h1, h2, h3⟩ := h
  have hl := (List.getElem?_eq_some_iff.mp hk).1
  have hset : ts.set k s = ts := by
    obtain ⟨_, q⟩ := List.getElem?_eq_some_iff.mp hk
    rw [← q, List.set_getElem_self]
  cases h1 with
  | @node p vs _ B0 a1 al a2 =>
    have a3 := a2
    rw [← hset] at a3
    obtain ⟨u, B1, C1, e1, e2, e3, e4⟩ := TrAll.at hl a3
    refine ⟨p, vs, u, B1, p :: (C1 ++ C), rfl, a1, a2.length, e1, e2, ?_, fun F2 H2 s' B' xf st g => ?_⟩
    · refine h2.trans ?_
      show ((p :: B0) ++ C).Perm (B1 ++ p :: (C1 ++ C))
      refine List.Perm.trans ?_ List.perm_middle.symm
      show (p :: (B0 ++ C)).Perm (p :: (B1 ++ (C1 ++ C)))
      rw [← List.append_assoc]
      exact (e3.append_right C).cons p
    · obtain ⟨A1, g1, g2⟩ := e4 xf (fun a ha => st a (List.mem_cons_of_mem _ (List.mem_append_left _ ha))) g
      obtain ⟨A2, g3, g4⟩ := h3 F2 H2 (.node (ts.set k s')) (p :: A1) xf (fun a ha => st a (List.mem_cons_of_mem _ (List.mem_append_right _ ha))) (.node (st p (List.mem_cons_self ..) _ a1) al g1)
      refine ⟨A2, g3, g4.trans ?_⟩
      refine List.Perm.trans ?_ List.perm_middle.symm
      show (p :: (A1 ++ C)).Perm (p :: (B' ++ (C1 ++ C)))
      rw [← List.append_assoc]
      exact (g2.append_right C).cons p
theorem foc_tup {k : Nat} (h : Foc K F H v up (.tup ts) A w B C) (hk : ts[k]? = some s) : ∃ p vs u B' C', w = .ref p ∧ SqT K F p vs ∧ vs.length = ts.length ∧ vs[k]? = some u ∧ Foc K F H v (fun z => up (.tup (ts.set k z))) s A u B' C' := by
  obtain ⟨h1, h2, h3⟩ := h
  have hl := (List.getElem?_eq_some_iff.mp hk).1
  have hset : ts.set k s = ts := by
    obtain ⟨_, q⟩ := List.getElem?_eq_some_iff.mp hk
    rw [← q, List.set_getElem_self]
  cases h1 with
  | @tup p vs _ B0 a1 a2 =>
    have a3 := a2
    rw [← hset] at a3
    obtain ⟨u, B1, C1, e1, e2, e3, e4⟩ := TrAll.at hl a3
    refine ⟨p, vs, u, B1, C1 ++ C, rfl, a1, a2.length, e1, e2, ?_, fun F2 H2 s' B' xf st g => ?_⟩
    · refine h2.trans ?_
      rw [← List.append_assoc]
      exact e3.append_right C
    · obtain ⟨A1, g1, g2⟩ := e4 xf (fun a ha => st a (List.mem_append_left _ ha)) g
      obtain ⟨A2, g3, g4⟩ := h3 F2 H2 (.tup (ts.set k s')) A1 xf (fun a ha => st a (List.mem_append_right _ ha)) (.tup (ex_t xf a1) g1)
      refine ⟨A2, g3, g4.trans ?_⟩
      rw [← List.append_assoc]
      exact g2.append_right C
theorem foc_pin {v0 : V} (h : Foc K F H v up (.pin v0 s) A w B C) : w = v0 ∧ Foc K F H v (fun z => up (.pin v0 z)) s A w B C := by
  obtain ⟨h1, h2, h3⟩ := h
  cases h1 with
  | pin h1 => exact ⟨rfl, h1, h2, fun F2 H2 s' B' xf st g => h3 F2 H2 (.pin w s') B' xf st (.pin g)⟩
theorem UpOk.id : UpOk fun z => z := ⟨fun {K F H v s A} h => ⟨v, A, [], foc_id h⟩⟩
theorem UpOk.node {ts : List Tr} {k : Nat} (h : UpOk up) (hk : k < ts.length) : UpOk fun z => up (.node (ts.set k z)) := ⟨fun {K F H v s A} g => by
  obtain ⟨w, B, C, f⟩ := h.go g
  obtain ⟨p, vs, u, B', C', _, _, _, _, f2⟩ := foc_node f (k := k) (s := s) (by rw [List.getElem?_set_self hk])
  refine ⟨u, B', C', ?_⟩
  simp only [List.set_set] at f2
  exact f2⟩
theorem UpOk.tup {ts : List Tr} {k : Nat} (h : UpOk up) (hk : k < ts.length) : UpOk fun z => up (.tup (ts.set k z)) := ⟨fun {K F H v s A} g => by
  obtain ⟨w, B, C, f⟩ := h.go g
  obtain ⟨p, vs, u, B', C', _, _, _, _, f2⟩ := foc_tup f (k := k) (s := s) (by rw [List.getElem?_set_self hk])
  refine ⟨u, B', C', ?_⟩
  simp only [List.set_set] at f2
  exact f2⟩
theorem UpOk.pin {v0 : V} (h : UpOk up) : UpOk fun z => up (.pin v0 z) := ⟨fun {K F H v s A} g => by
  obtain ⟨w, B, C, f⟩ := h.go g
  exact ⟨w, B, C, (foc_pin f).2⟩⟩
theorem TrFA.grow {A : Nat → List Addr} (h : TrFA K env σ F H Φ A) (xf : Ex F F') (xh : Ex H H') : TrFA K env σ F' H' Φ A := ⟨fun i v t hi => by
  obtain ⟨b1, b2, b3, b4⟩ := h.1 i v t hi
  exact ⟨b1, b2.up xf fun a _ us z => xh _ _ z, b3, b4⟩, h.2⟩
/-- a list of the trees is written -/
theorem Mes.putTr {i : Nat} {p : Addr} {vs : List V} (m : Mes K H0 env σ F H Φ c) (hfree : env.all trFree = true) (hp : Φ p = some trQ) (hl : vs.length ≤ 1000000) (htr : TrF K (env.set i (.tr v t)) σ F (upd H p (.lst vs)) Φ) : Mes K H0 (env.set i (.tr v t)) σ F (upd H p (.lst vs)) Φ c := by
  have nown : ∀ j q, OwnS env σ j q → q ≠ p := fun j q hq z => by
    have := (m.own j q hq).1
    rw [z, hp] at this; cases this
  have ownk : ∀ j q, OwnS (env.set i (.tr v t)) σ j q → OwnS env σ j q := fun j q ⟨q1, q2⟩ => by
    refine ⟨q1, ?_⟩
    rcases q2 with ⟨ds, q2⟩ | ⟨t, ds, q2⟩
    · rcases get_set_cases q2 with ⟨_, _, q⟩ | ⟨_, q⟩
      · cases q
      · exact .inl ⟨ds, q⟩
    · rcases get_set_cases q2 with ⟨_, _, q⟩ | ⟨_, q⟩
      · cases q
      · exact .inr ⟨t, ds, q⟩
  have ne77 : ∀ a e n u, e < 77 → Φ a = some (e, n, u) → a ≠ p := fun a e n u he z y => by
    rw [y, hp] at z; cases z; exact absurd he (by decide)
  refine ⟨fun a e n u hq => ?_, fun j q hq => ?_, fun j k q q1 q2 => m.sep j k q (ownk j q q1) (ownk k q q2), fun j e c' u d hj => ?_, fun j a vs e c' n u hj => ?_, fun j u ds hj => ?_, fun j e c' n m' dss hj => ?_, htr⟩
  · obtain ⟨s1, s2, s3, us, s4, s5, s6⟩ := m.reg a e n u hq
    by_cases hap : a = p
    · subst hap
      rw [hp] at hq; cases hq
      exact ⟨s1, s2, s3, vs, upd_same, Nat.le_trans hl (Nat.le_add_right _ _), fun _ _ => trivial⟩
    · exact ⟨s1, s2, s3, us, by rw [upd_ne hap]; exact s4, s5, s6⟩
  · obtain ⟨s1, s2, s3, us, s4⟩ := m.own j q (ownk j q hq)
    exact ⟨s1, s2, s3, us, by rw [upd_ne (nown j q (ownk j q hq))]; exact s4⟩
  · rcases get_set_cases hj with ⟨_, _, q⟩ | ⟨ne, q⟩
    · cases q
    · have hlt : e < 77 := of_decide_eq_true (trFree_get hfree q)
      obtain ⟨b1, w, b2, b3, b4⟩ := m.mes j e c' u d q
      refine ⟨b1, w, b2, b3, fun x hx => (b4 x hx).up fun a o h => ?_⟩
      unfold mixH at h ⊢
      cases hq : Φ a with
      | none => rw [hq] at h; exact h
      | some z =>
        obtain ⟨e0, n0, t0⟩ := z
        rw [hq] at h
        simp only at h ⊢
        split at h
        · rename_i hle
          rw [if_pos hle, upd_ne (ne77 a e0 n0 t0 (by omega) hq)]; exact h
        · rename_i hle; rw [if_neg hle]; exact h
  · rcases get_set_cases hj with ⟨_, _, q⟩ | ⟨ne, q⟩
    · cases q
    · have hlt : e < 77 := of_decide_eq_true (trFree_get hfree q)
      obtain ⟨b1, b2, b3, b4⟩ := m.itm j a vs e c' n u q
      exact ⟨b1, by rw [upd_ne (ne77 a e n u hlt b3)]; exact b2, b3, b4⟩
  · rcases get_set_cases hj with ⟨_, _, q⟩ | ⟨ne, q⟩
    · cases q
    · obtain ⟨p', us, s1, s2, s3, s4⟩ := m.ownN j u ds q
      exact ⟨p', us, s1, by rw [upd_ne (nown j p' ⟨s1, .inr ⟨u, ds, q⟩⟩)]; exact s2, s3, s4⟩
  · rcases get_set_cases hj with ⟨_, _, q⟩ | ⟨ne, q⟩
    · cases q
    · have hlt : e < 77 := of_decide_eq_true (trFree_get hfree q)
      obtain ⟨b1, b0, q', vs', b2, b3, b4, b5⟩ := m.tab j e c' n m' dss q
      exact ⟨b1, b0, q', vs', b2, b3, by rw [upd_ne (ne77 _ _ _ _ hlt b3)]; exact b4, b5.up (Ex.refl _) (fun _ z => z) (fun p ws z z2 => by rw [upd_ne (ne77 _ _ _ _ hlt z)]; exact z2)⟩
theorem nodup_perm {l l' : List Addr} (h : l.Perm l') (n : l.Nodup) : l'.Nodup := h.nodup_iff.mp n
/-- the list at a place of the tree of slot i is written -/
theorem Ok.focPut {A : Nat → List Addr} {i : Nat} {p : Addr} {ws vs : List V} {ts' : List Tr} {B0 : List Addr} (ok : Ok K F0 H0 env σ F H) (m : Mes K H0 env σ F H Φ c) (hA : TrFA K env σ F H Φ A) (ho : env[i]? = some (.tr v (up (.node ts)))) (hf : Foc K F H v up (.node ts) (A i) (.ref p) B C) (hfree : env.all trFree = true) (hh : H p = some (.lst ws)) (hl : vs.length ≤ 1000000)
    (hall : TrAll K F H vs ts' B0) (hnd : (p :: B0).Nodup) (hB : ∀ a ∈ B0, Φ a = some trQ ∧ (a ∈ B ∨ (a ∉ C ∧ ∀ (j : Nat) (w : V) (u : Tr), env[j]? = some (.tr w u) → a ∉ A j))) : Ok K F0 H0 (env.set i (.tr v (up (.node ts')))) σ F (upd H p (.lst vs)) := by
  obtain ⟨h1, h2, h3⟩ := hf
  obtain ⟨s1, s2, s3, s4⟩ := hA.1 i v _ ho
  have hil : i < σ.length := by
    rw [ok.len]; exact (List.getElem?_eq_some_iff.mp ho).1
  have hpB : p ∈ B := by
    cases h1 with
    | node a1 al a2 => exact List.mem_cons_self ..
  have nBC : (B ++ C).Nodup := nodup_perm h2 s3
  have hpA : p ∈ A i := h2.mem_iff.mpr (List.mem_append_left _ hpB)
  have hΦ := s4 p hpA
  obtain ⟨r1, _, r3, _⟩ := m.reg p _ _ _ hΦ
  have hp0 : p ∉ B0 := (List.nodup_cons.mp hnd).1
  have hpC : p ∉ C := fun hc => (List.nodup_append.mp nBC).2.2 p hpB p hc rfl
  obtain ⟨A', g1, g2⟩ := h3 F (upd H p (.lst vs)) (.node ts') (p :: B0) (Ex.refl _) (fun a ha us hu => by rw [upd_ne (show a ≠ p from fun z => hpC (z ▸ ha))]; exact hu) (.node upd_same hl (hall.up (Ex.refl _) fun a ha us hu => by rw [upd_ne (show a ≠ p from fun z => hp0 (z ▸ ha))]; exact hu))
  have nA' : A'.Nodup := by
    refine nodup_perm g2.symm (List.nodup_append.mpr ⟨hnd, (List.nodup_append.mp nBC).2.1, fun a ha b hb z => ?_⟩)
    subst z
    rcases List.mem_cons.mp ha with rfl | ha
    · exact hpC hb
    · rcases (hB a ha).2 with q | q
      · exact (List.nodup_append.mp nBC).2.2 a q a hb rfl
      · exact q.1 hb
  have inA : ∀ a ∈ A', Φ a = some trQ ∧ (a ∈ A i ∨ ∀ (j : Nat) (w : V) (u : Tr), env[j]? = some (.tr w u) → a ∉ A j) := fun a ha => by
    rcases List.mem_append.mp (g2.mem_iff.mp ha) with q | q
    · rcases List.mem_cons.mp q with rfl | q
      · exact ⟨hΦ, .inl hpA⟩
      · obtain ⟨q1, q2⟩ := hB a q
        refine ⟨q1, ?_⟩
        rcases q2 with q2 | q2
        · exact .inl (h2.mem_iff.mpr (List.mem_append_left _ q2))
        · exact .inr q2.2
    · have := h2.mem_iff.mpr (List.mem_append_right B q)
      exact ⟨s4 a this, .inl this⟩
  have hT : TrFA K (env.set i (.tr v (up (.node ts')))) (σ.set i (some v)) F (upd H p (.lst vs)) Φ fun j => if j = i then A' else A j :=
    hA.set hil g1 nA' (fun a ha => (inA a ha).1) (fun a ha j w u hne hj => by
      rcases (inA a ha).2 with q | q
      · exact hA.2 i j v w _ u hne ho hj a q
      · exact q j w u hj) (Ex.refl _) fun j w u hne hj a ha => ⟨(hA.1 j w u hj).2.2.2 a ha, fun us hu => by
        rw [upd_ne (show a ≠ p from fun z => hA.2 i j v w _ u hne ho hj p hpA (z ▸ ha))]; exact hu⟩
  rw [set_self_st s1] at hT
  refine ok.putT (r3 (by decide)) r1 hh (fun j es hj z => ?_) (fun j s hj => ?_) (by rw [List.length_set]) ⟨Φ, c, m.putTr hfree hΦ hl ⟨_, hT⟩⟩
  · rcases get_set_cases hj with ⟨_, _, q⟩ | ⟨ne, q⟩
    · cases q
    · have := (m.own j p ⟨z, .inl ⟨es, q⟩⟩).1
      rw [hΦ] at this; cases this
  · rcases get_set_cases hj with ⟨_, _, q⟩ | ⟨_, q⟩
    · subst q; exact .inl trivial
    · exact .inr (.inr q)
/-- another tree over the same lists -/
theorem Ok.retree {A : Nat → List Addr} {i : Nat} {A' : List Addr} (ok : Ok K F0 H0 env σ F H) (m : Mes K H0 env σ F H Φ c) (hA : TrFA K env σ F H Φ A) (ho : env[i]? = some (.tr v t)) (ht : TrAt K F H v u A') (hn : A'.Nodup) (hs : ∀ a ∈ A', a ∈ A i) : Ok K F0 H0 (env.set i (.tr v u)) σ F H := by
  obtain ⟨s1, s2, s3, s4⟩ := hA.1 i v _ ho
  have hil : i < σ.length := by
    rw [ok.len]; exact (List.getElem?_eq_some_iff.mp ho).1
  have hT := hA.set (v := v) hil ht hn (fun a ha => s4 a (hs a ha)) (fun a ha j w u hne hj => hA.2 i j v w _ u hne ho hj a (hs a ha)) (Ex.refl _) fun j w u hne hj a ha => ⟨(hA.1 j w u hj).2.2.2 a ha, fun us hu => hu⟩
  have o1 := ok.setT (i := i) (s := .tr v u) (x := some v) trivial ⟨Φ, c, m.setTr ⟨_, hT⟩⟩
  rwa [set_self_st s1] at o1
/-- the tree at a place goes to slot j -/
theorem Ok.split {A : Nat → List Addr} {i j : Nat} (ok : Ok K F0 H0 env σ F H) (m : Mes K H0 env σ F H Φ c) (hA : TrFA K env σ F H Φ A) (ho : env[i]? = some (.tr v (up t))) (hf : Foc K F H v up t (A i) w B C) (ht : TrAt K F H w s B) (hij : i ≠ j) (hj : j < env.length) (hno : env[j]? = some .no) :
    Ok K F0 H0 ((env.set i (.tr v (up (.hole w)))).set j (.tr w s)) (σ.set j (some w)) F H := by
  obtain ⟨h1, h2, h3⟩ := hf
  obtain ⟨s1, s2, s3, s4⟩ := hA.1 i v _ ho
  obtain ⟨A', g1, g2⟩ := h3 F H (.hole w) [] (Ex.refl _) (fun a ha us hu => hu) (.hole w)
  have nBC : (B ++ C).Nodup := nodup_perm h2 s3
  have g2 : A'.Perm C := g2
  have inA : ∀ a ∈ A', a ∈ A i := fun a ha => h2.mem_iff.mpr (List.mem_append_right _ (g2.mem_iff.mp ha))
  have inB : ∀ a ∈ B, a ∈ A i := fun a ha => h2.mem_iff.mpr (List.mem_append_left _ ha)
  have hil : i < σ.length := by
    rw [ok.len]; exact (List.getElem?_eq_some_iff.mp ho).1
  have nA' : A'.Nodup := nodup_perm g2.symm (List.nodup_append.mp nBC).2.1
  have hT := hA.set (v := v) hil g1 nA' (fun a ha => s4 a (inA a ha)) (fun a ha j w u hne hj => hA.2 i j v w _ u hne ho hj a (inA a ha)) (Ex.refl _) fun j w u hne hj a ha => ⟨(hA.1 j w u hj).2.2.2 a ha, fun us hu => hu⟩
  have m1 := m.setTr ⟨_, hT⟩
  rw [set_self_st s1] at hT m1
  have hT2 := hT.set (i := j) (v := w) (by rw [ok.len]; exact hj) ht (List.nodup_append.mp nBC).1 (fun a ha => s4 a (inB a ha)) (fun a ha k w' u' hne hk => by
    rcases get_set_cases hk with ⟨e, _, q⟩ | ⟨ne, q⟩
    · subst e
      simp only [if_true]
      exact fun hm => (List.nodup_append.mp nBC).2.2 a ha a (g2.mem_iff.mp hm) rfl
    · simp only [if_neg (Ne.symm ne)]
      exact hA.2 i k v w' _ u' ne ho q a (inB a ha)) (Ex.refl _) fun k w' u' hne hk a ha => ⟨(hT.1 k w' u' hk).2.2.2 a ha, fun us hu => hu⟩
  have o1 := ok.setT (i := i) (s := .tr v (up (.hole w))) (x := some v) trivial ⟨Φ, c, by rw [set_self_st s1]; exact m1⟩
  rw [set_self_st s1] at o1
  exact o1.setT (i := j) (s := .tr w s) (x := some w) trivial ⟨Φ, c, m1.setTr ⟨_, hT2⟩⟩
/-- .. and comes back -/
theorem Ok.join {i j : Nat} (hup : UpOk up) (ok : Ok K F0 H0 env σ F H) (ho : env[i]? = some (.tr v (up (.hole w)))) (hj : env[j]? = some (.tr w s)) (hij : i ≠ j) : Ok K F0 H0 ((env.set i (.tr v (up (.pin w s)))).set j .no) σ F H := by
  obtain ⟨Φ, c, A, m, hA, s1, s2, s3, s4⟩ := ok.trG ho
  obtain ⟨t1, t2, t3, t4⟩ := hA.1 j w s hj
  obtain ⟨w', B, C, h1, h2, h3⟩ := hup.go s2
  cases h1 with
  | hole =>
    have h2 : (A i).Perm C := h2
    have nC := nodup_perm h2 s3
    obtain ⟨A', g1, g2⟩ := h3 F H (.pin w s) (A j) (Ex.refl _) (fun a ha us hu => hu) (.pin t2)
    have oj : Ok K F0 H0 (env.set j .no) σ F H := ok.forget j
    have mj : Mes K H0 (env.set j .no) σ F H Φ c := m.setE trivial
    have hAj : TrFA K (env.set j .no) σ F H Φ A := ⟨fun k w' u' hk => by
      rcases get_set_cases hk with ⟨_, _, q⟩ | ⟨_, q⟩
      · cases q
      · exact hA.1 k w' u' q, fun k l w1 w2 u1 u2 hne hk hl => by
      rcases get_set_cases hk with ⟨_, _, q⟩ | ⟨_, q⟩
      · cases q
      · rcases get_set_cases hl with ⟨_, _, q'⟩ | ⟨_, q'⟩
        · cases q'
        · exact hA.2 k l w1 w2 u1 u2 hne q q'⟩
    have hoi : (env.set j .no)[i]? = some (.tr v (up (.hole w))) := by rw [List.getElem?_set_ne (Ne.symm hij)]; exact ho
    have hil : i < σ.length := by
      rw [ok.len]; exact (List.getElem?_eq_some_iff.mp ho).1
    have inA : ∀ a ∈ A', a ∈ A j ∨ a ∈ A i := fun a ha => by
      rcases List.mem_append.mp (g2.mem_iff.mp ha) with q | q
      · exact .inl q
      · exact .inr (h2.mem_iff.mpr q)
    have hT := hAj.set (v := v) hil g1 (nodup_perm g2.symm (List.nodup_append.mpr ⟨t3, nC, fun a ha b hb z => by
      subst z
      exact hA.2 i j v w _ s hij ho hj a (h2.mem_iff.mpr hb) ha⟩)) (fun a ha => by
      rcases inA a ha with q | q
      · exact t4 a q
      · exact (s4 a q).1) (fun a ha k w' u' hne hk => by
      rcases get_set_cases hk with ⟨_, _, q⟩ | ⟨ne, q⟩
      · cases q
      · rcases inA a ha with z | z
        · exact hA.2 j k w w' s u' ne hj q a z
        · exact hA.2 i k v w' _ u' hne ho q a z) (Ex.refl _) fun k w' u' hne hk a ha => ⟨(hAj.1 k w' u' hk).2.2.2 a ha, fun us hu => hu⟩
    have o1 := oj.setT (i := i) (s := .tr v (up (.pin w s))) (x := some v) trivial ⟨Φ, c, mj.setTr ⟨_, hT⟩⟩
    rw [set_self_st s1] at o1
    rwa [List.set_comm _ _ hij]
end
end D3
namespace D3
open PySem PySem.Spec L2 PyProof.Rows

/-! ### places of trees in expressions and statements -/
def tPl (K : KF) (env : List Sl) (i : Nat) (v : V) (up : Tr → Tr) (s : Tr) : TE := fun σ H Q => ∃ F0 H0 F Φ c A, Ok K F0 H0 env σ F H ∧ Mes K H0 env σ F H Φ c ∧ TrFA K env σ F H Φ A ∧ env[i]? = some (.tr v (up s)) ∧ ∀ w F' H' B C, Grow F H F' H' → Foc K F' H' v up s (A i) w B C → Q w H'
section
variable {X : Cx} {K : KF} {e a b e1 e2 iter : Expr} {es : List Expr} {env env' : List Sl} {d d1 : PyData} {ds rs : List PyData} {pos p p1 p2 p3 p4 : Pos} {E : DE} {x y : Str} {c m k n i : Nat} {body rest sts : List Stmt} {v w : V} {s t u : Tr} {ts us : List Tr} {up : Tr → Tr}
theorem Ok.trFA {F0 H0 F H : Hp} {σ : L2.St} (ok : Ok K F0 H0 env σ F H) : ∃ Φ c A, Mes K H0 env σ F H Φ c ∧ TrFA K env σ F H Φ A := by
  obtain ⟨Φ, c, m⟩ := ok.tre
  obtain ⟨A, hA⟩ := m.tr
  exact ⟨Φ, c, A, m, hA⟩
theorem pl_name (i : Nat) (hi : X.N[i]? = some x) (hv : Vis X.env.scope x) (ho : env[i]? = some (.tr v t)) (hdb : (x == ("__debug__" : Str)) = false := by decide) (hcd : (x == ("__classdict__" : Str)) = false := by decide) : PE X (.Name x pos) (tPl X.K env i v (fun z => z) t) :=
  pmono (pe_var hi hv hdb hcd) fun σ H Q ⟨F0, H0, F, Φ, c, A, ok, m, hA, _, q⟩ => by
    obtain ⟨s1, s2, _⟩ := hA.1 i v t ho
    exact ⟨v, s1, q v F H (A i) [] (Grow.refl ok.g.fh) (foc_id s2)⟩
theorem atI_nn {vs : List V} {j : Int} {u : V} (h0 : 0 ≤ j) (h : vs[j.toNat]? = some u) : atI vs j = some u := by
  unfold atI ixN
  have := (List.getElem?_eq_some_iff.mp h).1
  rw [if_pos h0, if_pos (by omega)]
  exact h
theorem pl_ix {j : Int} (h : PE X a (tPl X.K env i v up (.node ts))) (hb : PE X b (tE X.K true env (.int j))) (h0 : 0 ≤ j) (hj : ts[j.toNat]? = some s) (hs : PlainIx b := by exact fun _ _ => rfl) : PE X (.Subscript a b pos) (tPl X.K env i v (fun z => up (.node (ts.set j.toNat z))) s) :=
  pmono (pe_ix ix_list h hb hs) fun σ H Q ⟨F0, H0, F, Φ, c, A, ok, m, hA, ho, q⟩ => by
    have hset : ts.set j.toNat s = ts := by
      obtain ⟨_, q⟩ := List.getElem?_eq_some_iff.mp hj
      rw [← q, List.set_getElem_self]
    have ho : env[i]? = some (.tr v (up (.node ts))) := by
      have ho := ho
      simp only [hset] at ho
      exact ho
    refine ⟨F0, H0, F, Φ, c, A, ok, m, hA, ho, fun w F1 H1 B C g1 f1 => ⟨F0, H0, F1, ok.grow g1, fun z F2 H2 g2 x2 => ?_⟩⟩
    cases (show Dq X.K F2 z (.int j) from x2)
    obtain ⟨pp, vs, u, B', C', rfl, hh, _, hu, f2⟩ := foc_node (f1.up2 g2.ff g2.hh) hj
    exact ⟨pp, vs, j, u, rfl, rfl, sqOf hh, atI_nn h0 hu, q u F2 H2 B' C' (g1.trans g2) f2⟩
theorem pl_ixT {j : Int} (h : PE X a (tPl X.K env i v up (.tup ts))) (hb : PE X b (tE X.K true env (.int j))) (h0 : 0 ≤ j) (hj : ts[j.toNat]? = some s) (hs : PlainIx b := by exact fun _ _ => rfl) : PE X (.Subscript a b pos) (tPl X.K env i v (fun z => up (.tup (ts.set j.toNat z))) s) :=
  pmono (pe_ix ix_tup h hb hs) fun σ H Q ⟨F0, H0, F, Φ, c, A, ok, m, hA, ho, q⟩ => by
    have hset : ts.set j.toNat s = ts := by
      obtain ⟨_, q⟩ := List.getElem?_eq_some_iff.mp hj
      rw [← q, List.set_getElem_self]
    have ho : env[i]? = some (.tr v (up (.tup ts))) := by
      have ho := ho
      simp only [hset] at ho
      exact ho
    refine ⟨F0, H0, F, Φ, c, A, ok, m, hA, ho, fun w F1 H1 B C g1 f1 => ⟨F0, H0, F1, ok.grow g1, fun z F2 H2 g2 x2 => ?_⟩⟩
    cases (show Dq X.K F2 z (.int j) from x2)
    obtain ⟨pp, vs, u, B', C', rfl, hh, _, hu, f2⟩ := foc_tup (f1.up2 g2.ff g2.hh) hj
    exact ⟨pp, vs, j, u, rfl, rfl, ex_t g2.fh hh, atI_nn h0 hu, q u F2 H2 B' C' (g1.trans g2) f2⟩
/-- a place is read -/
theorem e_pl (ho : env[i]? = some (.tr v (up t))) (h : PE X e (tPl X.K env i v up t)) (hd : TrD t d) : PE X e (tE X.K false env d) := pmono h fun σ H Q ⟨F0, H0, F, ok, q⟩ => by
  obtain ⟨Φ, c, A, m, hA⟩ := ok.trFA
  exact ⟨F0, H0, F, Φ, c, A, ok, m, hA, ho, fun w F1 H1 B C g1 f1 => q w F1 H1 g1 (TrAt.dq g1.fh t w B d f1.1 hd fun _ _ _ z => z)⟩
theorem e_lenTr {mm : Bool} (ho : env[i]? = some (.tr v (up (.node ts)))) (hm : X.mg "len" = none) (h : PE X e (tPl X.K env i v up (.node ts))) (hg : Gl X "len" := by rfl) (ns : NS X e := by exact fun _ => rfl) : PE X (.Call (.Name "len" p1) [e] [] pos) (tE X.K mm env (.int (ts.length : Int))) :=
  pmono (pe_callB call_len_seq hg hm PySem.boot_len (pa_cons h pa_nil (ns [])) (he := ns [])) fun σ H Q ⟨F0, H0, F, ok, q⟩ => by
    obtain ⟨Φ, c, A, m, hA⟩ := ok.trFA
    refine ⟨F0, H0, F, Φ, c, A, ok, m, hA, ho, fun w F1 H1 B C g1 f1 => ?_⟩
    obtain ⟨f1, _⟩ := f1
    cases f1 with
    | @node pp vs _ B0 h1 hlb h2 => exact ⟨pp, vs, rfl, .inl (sqOf h1), q _ F1 H1 g1 (by rw [h2.length]; exact .int _)⟩
/-- place.append(new tree) -/
theorem s_appTr (ho : env[i]? = some (.tr v (up (.node ts)))) (hE : PE X a (tPl X.K env i v up (.node ts))) (he : PE X e (tTr X.K env u)) (hz : ts.length < 1000000) (hfree : env.all trFree = true) (h : E.nx (env.set i (.tr v (up (.node (ts ++ [u]))))))
    (na : NS X e := by exact fun _ => rfl) (hbase : attributeBase a "append" X.env (eval a X.env) = eval a X.env := by rfl) (hline : (p2.endLine == p3.line) = true := by rfl)
    (hs : swapsWith (.Call (.Attribute a "append" p2) [e] [] p3) none pos.line X.env = pure false := by rfl) : PS X (.Expr (.Call (.Attribute a "append" p2) [e] [] p3) pos) (tS X.K env E) :=
  psmono (ps_expr (pe_bm (hline := hline) PySem.F.plainAttrs_list PySem.F.slot_list_append PySem.F.type_list_append mt_append hE (pa_cons he pa_nil (na [])) (hs := na []) (hfew := by rw [na []]; rfl) (hbase := hbase)) hs) fun D σ H ⟨F0, H0, F, ok, nx, _⟩ => by
    obtain ⟨Φ, c, A, m, hA⟩ := ok.trFA
    refine ⟨F0, H0, F, Φ, c, A, ok, m, hA, ho, fun w F1 H1 B C g1 f1 => ?_⟩
    have f1' := f1
    obtain ⟨hw, hperm, _⟩ := f1
    cases hw with
    | @node pp vs _ B0 h1 hlb h2 =>
      refine ⟨.inl ⟨rfl, _, .inl (.inl h1)⟩, F0, H0, F1, ok.grow g1, fun v2 F2 H2 A2 g2 x2 n2 => ?_⟩
      have g12 := g1.trans g2
      have hn2 : NewA H F2 H2 A2 := n2.back g1.hh
      obtain ⟨m2, xr, hAA⟩ := m.addA ok g12 hn2
      have hA2 : TrFA X.K env σ F2 H2 (addA Φ A2) A := ⟨fun j w' u' hj => by
        obtain ⟨b1, b2, b3, b4⟩ := hA.1 j w' u' hj
        exact ⟨b1, b2.up g12.ff fun a _ us z => g12.hh _ _ z, b3, fun a ha => xr _ _ (b4 a ha)⟩, hA.2⟩
      have hp2 : H2 pp = some (.lst vs) := g2.hh _ _ h1
      have outA : ∀ a ∈ A2, ∀ (j : Nat) (w : V) (u : Tr), env[j]? = some (.tr w u) → a ∉ A j := fun a ha j w' u' hj hm => by
        obtain ⟨_, b2, _⟩ := hA.1 j w' u' hj
        obtain ⟨us, hu, _⟩ := TrAt.lst _ _ _ b2 a hm
        rw [(hn2.2 a ha).1] at hu; cases hu
      have hBn : (pp :: B0).Nodup := (List.nodup_append.mp (nodup_perm hperm (hA.1 i v _ ho).2.2.1)).1
      have inA : ∀ a ∈ pp :: B0, a ∈ A i := fun a ha => hperm.mem_iff.mpr (List.mem_append_left _ ha)
      refine ⟨pp, vs, v2, rfl, rfl, hp2, by rw [h2.length]; have := sizeLine_eq; omega, nx _ _ F2 _ h ?_⟩
      refine Ok.focPut (B0 := B0 ++ A2) (ok.grow g12) m2 hA2 ho (f1'.up2 g2.ff g2.hh) hfree hp2 (by rw [List.length_append, h2.length]; simp; omega) ?_ ?_ fun a ha => ?_
      · have hB0 : TrAll X.K F2 H2 vs ts B0 := h2.up g2.ff fun a _ us z => g2.hh _ _ z
        have h3 : TrAll X.K F2 H2 [v2] [u] A2 := by
          have := TrAll.cons x2 (TrAll.nil (K := X.K) (F := F2) (H := H2))
          rwa [List.append_nil] at this
        exact hB0.append h3
      · obtain ⟨q1, q2⟩ := List.nodup_cons.mp hBn
        refine List.nodup_cons.mpr ⟨fun hm => ?_, List.nodup_append.mpr ⟨q2, n2.1, fun a ha b hb z => ?_⟩⟩
        · rcases List.mem_append.mp hm with hm | hm
          · exact q1 hm
          · exact outA pp hm i v _ ho (inA pp (List.mem_cons_self ..))
        · subst z
          exact outA a hb i v _ ho (inA a (List.mem_cons_of_mem _ ha))
      · rcases List.mem_append.mp ha with ha | ha
        · exact ⟨xr _ _ ((hA.1 i v _ ho).2.2.2 a (inA a (List.mem_cons_of_mem _ ha))), .inl (List.mem_cons_of_mem _ ha)⟩
        · refine ⟨hAA a ha, .inr ⟨fun hc => outA a ha i v _ ho (hperm.mem_iff.mpr (List.mem_append_right _ hc)), outA a ha⟩⟩
end
/-! for item in a list of a tree -/
def tTrG (K : KF) (env : List Sl) (i : Nat) (v : V) (up : Tr → Tr) (ts : List Tr) (n : Nat) : TI := fun σ H R => ∃ F0 H0 F Φ c A, Ok K F0 H0 env σ F H ∧ Mes K H0 env σ F H Φ c ∧ TrFA K env σ F H Φ A ∧ env[i]? = some (.tr v (up (.node ts))) ∧ ∀ J F' H' B C b us la vs, Grow F H F' H' → Foc K F' H' v up (.node ts) (A i) (.ref b) B C → H' b = some (.lst us) → vs = us.take n → H' la = some (.lst vs) → IterOf la J → (la = b ∨ (H la = none ∧ F' la = none)) → R J H'
section
variable {X : Cx} {K : KF} {e a b e1 e2 iter tg l : Expr} {es : List Expr} {env env' : List Sl} {d d1 : PyData} {ds rs : List PyData} {pos p p1 p2 p3 p4 : Pos} {E : DE} {x y : Str} {c m k n i : Nat} {body rest sts : List Stmt} {v w : V} {s t u : Tr} {ts us : List Tr} {up : Tr → Tr}
theorem trg_all (h : PE X l (tPl X.K env i v up (.node ts))) : PI X tg l (tTrG X.K env i v up ts ts.length) :=
  pimono (pi_list h) fun σ H R ⟨F0, H0, F, Φ, c, A, ok, m, hA, ho, r⟩ => ⟨F0, H0, F, Φ, c, A, ok, m, hA, ho, fun w F1 H1 B C g1 f1 => by
    have f1' := f1
    obtain ⟨hw, _, _⟩ := f1
    cases hw with
    | @node pp vs _ B0 h1 hlb h2 => exact ⟨pp, rfl, ⟨vs, sqOf h1⟩, r _ F1 H1 _ _ pp vs pp vs g1 f1' h1 (by rw [← h2.length, List.take_length]) h1 iter_of (.inl rfl)⟩⟩
theorem trg_to {j : Int} (h : PE X l (tPl X.K env i v up (.node ts))) (hb : PE X b (tE X.K true env (.int j))) (hj : 0 ≤ j ∧ j ≤ (ts.length : Int)) : PI X tg (.Subscript l (.Slice none (some b) none p2) pos) (tTrG X.K env i v up ts j.toNat) :=
  pimono (pi_list (pe_slice sl_list h (o_no (K := X.K) (env := env)) (o_so hb))) fun σ H R ⟨F0, H0, F, Φ, c, A, ok, m, hA, ho, r⟩ => ⟨F0, H0, F, Φ, c, A, ok, m, hA, ho, fun w F1 H1 B C g1 f1 => ⟨F0, H0, F1, ok.grow g1, fun F2 H2 g2 => ⟨F0, H0, F2, (ok.grow g1).grow g2, fun F3 H3 g3 => by
    have g := (g1.trans g2).trans g3
    have f3 := (f1.up2 g2.ff g2.hh).up2 g3.ff g3.hh
    obtain ⟨hw, _, _⟩ := f1
    cases hw with
    | @node pp vs _ B0 h1 hlb h2 =>
      have h13 : H3 pp = some (.lst vs) := g3.hh _ _ (g2.hh _ _ h1)
      refine ⟨pp, vs, rfl, sqOf h13, fun l hl => ⟨l, rfl, ⟨_, sqOf upd_same⟩, ?_⟩⟩
      have hcut : cutV vs none (some j) = vs.take j.toNat := by
        unfold cutV
        have e1 : HT.sIx vs.length 0 none = 0 := rfl
        have e2 : HT.sIx vs.length vs.length (some j) = j.toNat := by
          have := h2.length
          have e3 : HT.sIx vs.length vs.length (some j) = (if j < 0 then (j + ↑vs.length).toNat else min j.toNat vs.length) := rfl
          rw [e3, if_neg (by omega)]
          omega
        rw [e1, e2]; rfl
      rw [hcut]
      have hne : pp ≠ l := fun z => by subst z; rw [h13] at hl; cases hl
      exact r _ F3 _ _ _ pp vs l _ (g.trans (Grow.own g3.fh hl)) (f3.up2 (Ex.refl _) (Ex.new hl)) (by rw [upd_ne hne]; exact h13) rfl upd_same iter_of (.inr ⟨g.hh.back hl, g3.fh.back hl⟩)⟩⟩⟩
def pins (us : List V) (ts : List Tr) : List Tr := List.zipWith Tr.pin us ts
theorem pins_len {us : List V} (h : us.length = ts.length) : (pins us ts).length = ts.length := by unfold pins; simp [h]
theorem pins_set : ∀ {us : List V} {ts : List Tr} {k : Nat} {w : V} {s : Tr}, us[k]? = some w → (pins us ts).set k (.pin w s) = pins us (ts.set k s)
  | [], ts, k, w, s, h => by simp at h
  | u :: us, [], k, w, s, h => by simp [pins]
  | u :: us, t :: ts, 0, w, s, h => by
    simp at h; subst h; rfl
  | u :: us, t :: ts, k + 1, w, s, h => by
    show Tr.pin u t :: (pins us ts).set k (.pin w s) = Tr.pin u t :: pins us (ts.set k s)
    rw [pins_set (by simpa using h)]
theorem pins_get : ∀ {us : List V} {ts : List Tr} {k : Nat} {w : V} {s : Tr}, us[k]? = some w → ts[k]? = some s → (pins us ts)[k]? = some (.pin w s)
  | [], ts, k, w, s, h, _ => by simp at h
  | u :: us, [], k, w, s, _, h => by simp at h
  | u :: us, t :: ts, 0, w, s, h, h2 => by
    simp at h h2; subst h h2; rfl
  | u :: us, t :: ts, k + 1, w, s, h, h2 => by
    show (pins us ts)[k]? = _
    exact pins_get (by simpa using h) (by simpa using h2)
section
variable {F H : Hp}
theorem pins_on : ∀ {us : List V} {ts : List Tr} {A : List Addr}, TrAll K F H us ts A → TrAll K F H us (pins us ts) A
  | [], ts, _, h => by cases h with | nil => exact .nil
  | u :: us, ts, _, h => by cases h with | cons h1 h2 => exact .cons (.pin h1) (pins_on h2)
theorem pins_off : ∀ {us ws : List V} {ts : List Tr} {A : List Addr}, us.length = ts.length → TrAll K F H ws (pins us ts) A → ws = us ∧ TrAll K F H us ts A
  | [], ws, [], _, _, h => by cases h with | nil => exact ⟨rfl, .nil⟩
  | u :: us, ws, t :: ts, _, hl, h => by
    cases h with
    | cons h1 h2 => cases h1 with
      | pin h1 =>
        obtain ⟨e, q⟩ := pins_off (by simpa using hl) h2
        subst e
        exact ⟨rfl, .cons h1 q⟩
  | [], ws, t :: ts, _, hl, _ => by cases hl
  | u :: us, ws, [], _, hl, _ => by cases hl
end
def trMix {α : Type} (zs : List α) (g g' : α → Tr) (rs : List Tr) (k : Nat) : List Tr := (zs.take k).map g' ++ (zs.drop k).map g ++ rs
theorem trMix_len {α : Type} {zs : List α} {g g' : α → Tr} {rs : List Tr} {k : Nat} (h : k ≤ zs.length) : (trMix zs g g' rs k).length = zs.length + rs.length := by
  unfold trMix
  simp
  omega
theorem trMix_0 {α : Type} {zs : List α} {g g' : α → Tr} {rs : List Tr} : trMix zs g g' rs 0 = zs.map g ++ rs := by unfold trMix; simp
theorem trMix_n {α : Type} {zs : List α} {g g' : α → Tr} {rs : List Tr} : trMix zs g g' rs zs.length = zs.map g' ++ rs := by unfold trMix; simp
theorem trMix_get {α : Type} {zs : List α} {g g' : α → Tr} {rs : List Tr} {k : Nat} {z : α} (h : zs[k]? = some z) : (trMix zs g g' rs k)[k]? = some (g z) := by
  unfold trMix
  have hk := (List.getElem?_eq_some_iff.mp h).1
  rw [List.append_assoc, List.getElem?_append_right (by simp; omega), List.length_map, List.length_take, show k - min k zs.length = 0 from by omega, List.getElem?_append_left (by simp; omega), List.getElem?_map, List.getElem?_drop, Nat.add_zero, h]
  rfl
theorem trMix_set {α : Type} {zs : List α} {g g' : α → Tr} {rs : List Tr} {k : Nat} {z : α} (h : zs[k]? = some z) : (trMix zs g g' rs k).set k (g' z) = trMix zs g g' rs (k + 1) := by
  have hk := (List.getElem?_eq_some_iff.mp h).1
  have hd : zs.drop k = z :: zs.drop (k + 1) := by
    rw [List.drop_eq_getElem_cons hk]
    rw [(List.getElem?_eq_some_iff.mp h).2]
  unfold trMix
  rw [hd, List.take_add_one, h, List.append_assoc, List.set_append_right _ _ (by simp; omega), List.length_map, List.length_take, show k - min k zs.length = 0 from by omega]
  simp
theorem c_forTr {α : Type} {zs : List α} {g g' : α → Tr} {rs : List Tr} {j : Nat} (U : Nat → List (Nat × Sl)) (hp : PassesOwn (model X.prog X.w) X.A X.env X.xe) (hup : UpOk up) (ho : env[i]? = some (.tr v (up (.node (zs.map g ++ rs))))) (hi : PI X (.Name y p3) iter (tTrG X.K env i v up (zs.map g ++ rs) zs.length)) (hN : X.N.Nodup) (hj : X.N[j]? = some y) (hij : i ≠ j) (hjl : j < env.length)
    (h0 : LeE env (setAll env (U 0))) (hU : ∀ k, (setAll env (U k))[i]? = env[i]?)
    (hb : ∀ (k : Nat) (z : α) (w : V) (t' : Tr), zs[k]? = some z → PSs X body (tS X.K (((setAll env (U k)).set i (.tr v t')).set j (.tr w (g z))) ⟨fun e => LeE e (((setAll env (U (k + 1))).set i (.tr v t')).set j (.tr w (g' z))), E.rt, fun _ => False, fun e => LeE e (((setAll env (U (k + 1))).set i (.tr v t')).set j (.tr w (g' z)))⟩))
    (hd : PSs X rest (tS X.K (((setAll env (U zs.length)).set i (.tr v (up (.node (zs.map g' ++ rs))))).set j .no) E)) (hx : Loc X.env.scope y := by first | exact .inl rfl | exact .inr rfl) (hf : X.fn y = true ∨ X.env.scope.names.lookup y = some .local := by first | exact .inl rfl | exact .inr rfl)
    (hc : X.calm = true := by rfl) (hs : ∀ x, foldedSetIterable iter X.env x = pure x := by intro _; rfl) : PSs X (.For (.Name y p3) iter body [] pos :: rest) (tS X.K env E) := by
  refine s_then (psmono (ps_for (tb := fun D σ H => ∃ (k : Nat) (z : α) (w : V) (t' : Tr), (zs[k]? = some z) ∧ tS X.K (((setAll env (U k)).set i (.tr v t')).set j (.tr w (g z))) ⟨fun e => LeE e (((setAll env (U (k + 1))).set i (.tr v t')).set j (.tr w (g' z))), E.rt, fun _ => False, fun e => LeE e (((setAll env (U (k + 1))).set i (.tr v t')).set j (.tr w (g' z)))⟩ D σ H) hp hc hi (pg_name hN hj hx hf)
    ⟨fun pins s σ H D J ⟨k, z, w, t', h, q⟩ => (hb k z w t' h).run pins s σ H D J q⟩ hs) fun D σ H ⟨F0, H0, F, ok, nx, bk, ct, rt⟩ => ?_) hd
  obtain ⟨Φ, c, A, m, hA⟩ := ok.trFA
  refine ⟨F0, H0, F, Φ, c, A, ok, m, hA, ho, fun J F1 H1 B C b us la vs g1 f1 hb1 hvs hla it hcase => ?_⟩
  -- the list that is walked is frozen if it is junk
  obtain ⟨F1', g1', f1', hla', xla⟩ : ∃ F1', Grow F H F1' H1 ∧ Foc X.K F1' H1 v up (.node (zs.map g ++ rs)) (A i) (.ref b) B C ∧ H1 la = some (.lst vs) ∧ (la = b ∨ F1' la = some (.lst vs)) := by
    rcases hcase with h | ⟨h, h'⟩
    · exact ⟨F1, g1, f1, hla, .inl h⟩
    · have xf : Ex F1 (upd F1 la (.lst vs)) := Ex.new h'
      refine ⟨upd F1 la (.lst vs), ⟨g1.ff.trans xf, g1.hh, g1.fh.at_ hla, fun a h0 h1 => ?_⟩, f1.up2 xf (Ex.refl _), hla, .inr upd_same⟩
      by_cases hal : a = la
      · subst hal; exact absurd h h1
      · rw [upd_ne hal]; exact g1.old a h0 h1
  clear hcase g1 f1 hla
  have gb : Grow F0 H0 F1' H1 := ok.g.trans g1'
  have o1 : Ok X.K F0 H0 env σ F1' H1 := ok.grow g1'
  have m1 : Mes X.K H0 env σ F1' H1 Φ c := m.grow g1' ok.g.fh ok.g.hh
  have hA1 : TrFA X.K env σ F1' H1 Φ A := hA.grow g1'.ff g1'.hh
  have hlus : us.length = (zs.map g ++ rs).length := by
    obtain ⟨hw, _, _⟩ := f1'
    cases hw with
    | node a1 al a2 =>
      rw [hb1] at a1; cases a1
      exact a2.length
  have hzl : zs.length ≤ us.length := by rw [hlus]; simp
  have hil : i < env.length := (List.getElem?_eq_some_iff.mp ho).1
  let T : Nat → List Sl := fun k => setAll env (U k)
  have lenT : ∀ k, (T k).length = env.length := fun k => setAll_len env (U k)
  let P : Nat → Tr := fun k => up (.pin (.ref b) (.node (pins us (trMix zs g g' rs k))))
  let S : Nat → List Sl := fun k => ((T k).set i (.tr v (P k))).set j .no
  have lenS : ∀ k, (S k).length = env.length := fun k => by
    show (((T k).set i _).set j _).length = _
    rw [List.length_set, List.length_set, lenT]
  have oS : Ok X.K F0 H0 (S 0) σ F1' H1 := by
    obtain ⟨hw, hpm, hre⟩ := f1'
    obtain ⟨A', q1, q2⟩ := hre F1' H1 (.pin (.ref b) (.node (pins us (trMix zs g g' rs 0)))) B (Ex.refl _) (fun _ _ _ z => z) (by
      cases hw with
      | node a1 al a2 =>
        rw [hb1] at a1; cases a1
        rw [trMix_0]
        exact .pin (.node hb1 al (pins_on a2)))
    have o2 := o1.retree m1 hA1 ho q1 (nodup_perm (q2.trans hpm.symm).symm (hA1.1 i v _ ho).2.2.1) fun a ha => (q2.trans hpm.symm).mem_iff.mp ha
    have hle : LeE (env.set i (.tr v (P 0))) ((T 0).set i (.tr v (P 0))) := LeE.set_ h0
    exact (o2.le hle).forget j
  have getI : ∀ k, (S k)[i]? = some (.tr v (P k)) := fun k => by
    show (((T k).set i (.tr v (P k))).set j .no)[i]? = _
    rw [List.getElem?_set_ne (Ne.symm hij), List.getElem?_set_self (by rw [lenT]; exact hil)]
  have getJ : ∀ k, (S k)[j]? = some .no := fun k => by
    show (((T k).set i (.tr v (P k))).set j .no)[j]? = _
    rw [List.getElem?_set_self (by rw [List.length_set, lenT]; exact hjl)]
  have hmx : ∀ k, k ≤ zs.length → us.length = (trMix zs g g' rs k).length := fun k hk => by rw [trMix_len hk, hlus]; simp
  have hvl : vs.length = zs.length := by rw [hvs, List.length_take]; omega
  -- the walked list at each turn
  have walked : ∀ k, k ≤ zs.length → ∀ {σ' F' H'}, Ok X.K F0 H0 (S k) σ' F' H' → Ex F1' F' → H' la = some (.lst vs) := fun k hk {σ' F' H'} ok' ex => by
    rcases xla with rfl | hx
    · obtain ⟨Φ', c', A2, m', hA2, s1, s2, s3, s4⟩ := ok'.trG (getI k)
      obtain ⟨w', B', C', f2⟩ := hup.go s2
      obtain ⟨rfl, f3⟩ := foc_pin f2
      obtain ⟨hw, _, _⟩ := f3
      rw [hb1] at hla'
      cases hla'
      cases hw with
      | node a1 al a2 =>
        obtain ⟨e, _⟩ := pins_off (hmx k hk) a2
        rw [a1, e]
    · exact ok'.g.fh _ _ (ex _ _ hx)
  refine ⟨fun k r σ' H' => k ≤ zs.length ∧ r = zs.length - k ∧ ∃ F', Ok X.K F0 H0 (S k) σ' F' H' ∧ Ex F1' F', ⟨zs.length, Nat.zero_le _, rfl, F1', oS, Ex.refl _⟩, ?_⟩
  rintro k r σ' H' ⟨hle, rfl, F', ok', ex⟩
  have hw' := walked k hle ok' ex
  by_cases hlt : k < zs.length
  · refine .inr ⟨it.go k H' vs hw' (by omega), fun σ2 H2 => ∃ F2, Ok X.K F0 H0 (S (k + 1)) σ2 F2 H2 ∧ Ex F1' F2, fun σ2 H2 ⟨F2, q1, q2⟩ => ⟨zs.length - (k + 1), by omega, hlt, rfl, F2, q1, q2⟩, fun w H3 hy => ?_⟩
    obtain ⟨rfl, hv⟩ := it.yld k H' vs w _ hw' hy
    have hz : zs[k]? = some zs[k] := List.getElem?_eq_getElem hlt
    have huk : us[k]? = some w := by
      rw [hvs, List.getElem?_take_of_lt hlt] at hv; exact hv
    let up' : Tr → Tr := fun z => up (.pin (.ref b) (.node ((pins us (trMix zs g g' rs k)).set k z)))
    have hkl : k < (pins us (trMix zs g g' rs k)).length := by
      rw [pins_len (hmx k hle), trMix_len hle]; omega
    have hup' : UpOk up' := (hup.pin (v0 := .ref b)).node hkl
    have hP : P k = up' (.pin w (g zs[k])) := by
      show up _ = up _
      have := pins_get huk (trMix_get (g := g) (g' := g') (rs := rs) hz)
      obtain ⟨_, q⟩ := List.getElem?_eq_some_iff.mp this
      rw [← q, List.set_getElem_self]
    have hP1 : P (k + 1) = up' (.pin w (g' zs[k])) := by
      show up _ = up _
      rw [pins_set huk, trMix_set hz]
    obtain ⟨Φ', c', A2, m', hA2, s1, s2, s3, s4⟩ := ok'.trG (getI k)
    rw [hP] at s2
    obtain ⟨w2, B2, C2, f2⟩ := hup'.go s2
    obtain ⟨e2, f3⟩ := foc_pin f2
    subst e2
    obtain ⟨t1, _, _⟩ := f3
    have o4 := ok'.split (s := g zs[k]) m' hA2 (by rw [getI k, hP]) f2 t1 hij (by rw [lenS]; exact hjl) (getJ k)
    have eS : ((S k).set i (.tr v (up' (.hole w2)))).set j (.tr w2 (g zs[k])) = ((T k).set i (.tr v (up' (.hole w2)))).set j (.tr w2 (g zs[k])) := by
      show ((((T k).set i (.tr v (P k))).set j .no).set i _).set j _ = _
      rw [List.set_comm _ _ (Ne.symm hij), List.set_set, List.set_set]
    rw [eS] at o4
    have fin : ∀ e2 σ2 F2 H2, LeE e2 (((T (k + 1)).set i (.tr v (up' (.hole w2)))).set j (.tr w2 (g' zs[k]))) → Ok X.K F1' H0 e2 σ2 F2 H2 → ∃ F2, Ok X.K F0 H0 (S (k + 1)) σ2 F2 H2 ∧ Ex F1' F2 := fun e2 σ2 F2 H2 h2 ok2 => by
      have ok3 := (ok2.unbase gb).le h2
      have ok5 := ok3.join hup' (by rw [List.getElem?_set_ne (Ne.symm hij), List.getElem?_set_self (by rw [lenT]; exact hil)]) (by rw [List.getElem?_set_self (by rw [List.length_set, lenT]; exact hjl)]) hij
      refine ⟨F2, ?_, ok2.g.ff⟩
      have e6 : ((((T (k + 1)).set i (.tr v (up' (.hole w2)))).set j (.tr w2 (g' zs[k]))).set i (.tr v (up' (.pin w2 (g' zs[k]))))).set j .no = S (k + 1) := by
        show _ = ((T (k + 1)).set i (.tr v (P (k + 1)))).set j .no
        rw [List.set_comm _ _ (Ne.symm hij), List.set_set, List.set_set, hP1]
      rw [e6] at ok5
      exact ok5
    exact ⟨k, zs[k], w2, up' (.hole w2), hz, F1', H0, F', o4.rebase gb ex, fin, fun _ _ _ _ z => z.elim, fin, fun r hr => (rt r hr).rebase gb⟩
  · have e : k = zs.length := by omega
    subst e
    refine .inl ⟨it.stop _ H' vs hw' (by omega), nx _ σ' F' H' rfl ?_⟩
    obtain ⟨Φ', c', A2, m', hA2, s1, s2, s3, s4⟩ := ok'.trG (getI zs.length)
    obtain ⟨w', B', C', f2⟩ := hup.go s2
    obtain ⟨rfl, f3⟩ := foc_pin f2
    obtain ⟨hw, hpm, hre⟩ := f2
    obtain ⟨A', q1, q2⟩ := hre F' H' (.node (zs.map g' ++ rs)) B' (Ex.refl _) (fun _ _ _ z => z) (by
      cases hw with
      | pin hw => cases hw with
        | node a1 al a2 =>
          obtain ⟨e, a3⟩ := pins_off (hmx zs.length (Nat.le_refl _)) a2
          subst e
          rw [trMix_n] at a3
          exact .node a1 al a3)
    have o5 := ok'.retree m' hA2 (getI zs.length) q1 (nodup_perm (q2.trans hpm.symm).symm s3) fun a ha => (q2.trans hpm.symm).mem_iff.mp ha
    have e6 : (S zs.length).set i (.tr v (up (.node (zs.map g' ++ rs)))) = ((T zs.length).set i (.tr v (up (.node (zs.map g' ++ rs))))).set j .no := by
      show (((T zs.length).set i (.tr v (P zs.length))).set j .no).set i _ = _
      rw [List.set_comm _ _ (Ne.symm hij), List.set_set]
    rw [e6] at o5
    exact o5
end
end D3
namespace D3
open PySem PySem.Spec L2 PyProof.Rows

/-! ### trees by types -/
def lf {α : Type} (enc : α → PyData) (z : α) : Tr := .leaf (enc z)
def nT {α : Type} (g : α → Tr) (zs : List α) : Tr := .node (zs.map g)
def tT2 {α β : Type} (g : α → Tr) (h : β → Tr) (z : α × β) : Tr := .tup [g z.1, h z.2]
theorem nT_map {α β : Type} {g : β → Tr} {f : α → β} {zs : List α} : nT (fun z => g (f z)) zs = nT g (zs.map f) := by unfold nT; rw [List.map_map]; rfl
theorem td_lf {α : Type} {enc : α → PyData} {z : α} : TrD (lf enc z) (enc z) := .leaf _
theorem td_N {α : Type} {g : α → Tr} {enc : α → PyData} (h : ∀ z, TrD (g z) (enc z)) {zs : List α} : TrD (nT g zs) (eL enc zs) := .node (TrDs.map fun z _ => h z)
theorem td_T2 {α β : Type} {g : α → Tr} {h : β → Tr} {e : α → PyData} {f : β → PyData} (h1 : ∀ z, TrD (g z) (e z)) (h2 : ∀ z, TrD (h z) (f z)) {z : α × β} : TrD (tT2 g h z) (eT2 e f z) := .tup (.cons (h1 _) (.cons (h2 _) .nil))
mutual
inductive TrSc : Tr → Prop
  | leaf {d : PyData} : scalD d = true → TrSc (.leaf d)
  | node {ts : List Tr} : TrScs ts → TrSc (.node ts)
inductive TrScs : List Tr → Prop
  | nil : TrScs []
  | cons {t : Tr} {ts : List Tr} : TrSc t → TrScs ts → TrScs (t :: ts)
end
theorem TrScs.map {α : Type} {g : α → Tr} : ∀ {zs : List α}, (∀ z ∈ zs, TrSc (g z)) → TrScs (zs.map g)
  | [], _ => .nil
  | z :: zs, h => .cons (h z (List.mem_cons_self ..)) (TrScs.map fun y hy => h y (List.mem_cons_of_mem _ hy))
theorem sc_N {α : Type} {g : α → Tr} (h : ∀ z, TrSc (g z)) {zs : List α} : TrSc (nT g zs) := .node (TrScs.map fun z _ => h z)
theorem sc_lf {α : Type} {enc : α → PyData} (h : ∀ z, scalD (enc z) = true) {z : α} : TrSc (lf enc z) := .leaf (h z)
section
variable {K : KF} {F F2 F' H H' H2 H0 F0 : Hp}
mutual
theorem TrAt.sc : ∀ (t : Tr) (v : V) (A : List Addr), TrAt K F H v t A → TrSc t → TrAt K F' H v t A
  | .leaf d, _, _, h, q => by
    cases h with
    | leaf h => cases q with
      | leaf q => exact .leaf (h.scal q)
  | .node ts, _, _, h, q => by
    cases h with
    | node h1 hl h2 => cases q with
      | node q => exact .node h1 hl (TrAll.sc ts _ _ h2 q)
  | .tup ts, _, _, h, q => by cases q
  | .pin w t, _, _, h, q => by cases q
  | .hole w, _, _, h, q => by cases q
theorem TrAll.sc : ∀ (ts : List Tr) (vs : List V) (A : List Addr), TrAll K F H vs ts A → TrScs ts → TrAll K F' H vs ts A
  | [], _, _, h, q => by cases h with | nil => exact .nil
  | t :: ts, _, _, h, q => by
    cases h with
    | cons h1 h2 => cases q with
      | cons q1 q2 => exact .cons (TrAt.sc t _ _ h1 q1) (TrAll.sc ts _ _ h2 q2)
end
end
section
variable {X : Cx} {K : KF} {e a b e1 e2 iter tg elt : Expr} {es ifs : List Expr} {env env' : List Sl} {d d1 : PyData} {ds rs : List PyData} {pos p p1 p2 p3 p4 : Pos} {E : DE} {x y : Str} {c m k n i : Nat} {body rest sts : List Stmt} {v w : V} {s t u : Tr} {ts us : List Tr} {up : Tr → Tr} {scope : Scope}
/-- arguments that are read alone, a tree of plain data comes back -/
theorem tr_callH {R : List PyData → RS → Prop} (D : Def X.prog X.w X.K X.mg X.base k x (spD X.K n R)) (hr : Room k X.A) (ha : PA X (e :: es) (tA X.K false env ds)) (hn : ds.length = n) (hR : R ds (.tre t)) (hs : TrSc t) (hg : Gl X x := by rfl) (hdb : (x == ("__debug__" : Str)) = false := by decide)
    (he : starEach (e :: es) X.env = (false, eval e X.env) :: starEach es X.env := by rfl) (hpl : (backTo pos (starEach es X.env)).any (·.1) = false := by rfl) : PE X (.Call (.Name x p) (e :: es) [] pos) (tTr X.K env t) := by
  obtain ⟨f, fd, ps, Fo, hm, hk, hb⟩ := D
  exact pmono (pe_call (E := E0) Fo hr hg hm hk hb .nil pass0 ha hdb he hpl) fun σ H Q ⟨F0, H0, F, ok, q⟩ => ⟨F0, H0, F, ok, fun vs F1 H1 g1 x1 => ⟨H1, ds, .tre t, Ex.refl _, by rw [List.append_nil]; exact x1, hn, hR, fun v F2 H2 A g2 x2 n2 => by
    have n3 := n2.back g1.hh
    refine q v F1 H2 A (g1.trans (Grow.junk g1.fh g2.hh)) (TrAt.sc t v A x2 hs) ⟨n3.1, fun a ha => ?_⟩
    obtain ⟨b1, b2, b3⟩ := n3.2 a ha
    exact ⟨b1, g1.fh.back (n2.2 a ha).1, b3⟩⟩⟩
theorem lc_readTr {α : Type} {zs : List α} {enc : α → PyData} {g : TG} {ix : List Nat} {f : α → List Sl → List Sl} {tb : α → Bool} {y : α → Tr} {own : List Nat} (hl : zs.length ≤ 1000000)
    (hf : ∀ z ∈ zs, Asg K g (enc z) (f z) ix) (hix : ∀ i ∈ ix, i ∈ own) {σ : L2.St} {H : Hp} {Q : VK} (h : tTr K env (.node ((zs.filter tb).map y)) σ H Q) :
    tLc (tI K env (zs.map enc)) g (fun σ H Q => ∃ z, (z ∈ zs) ∧ tT K (f z (wipeE env own)) (tb z) σ H Q) (fun σ H Q => ∃ z, (z ∈ zs ∧ tb z = true) ∧ tTr K (f z (wipeE env own)) (y z) σ H Q) own σ H Q := by
  obtain ⟨F0, H0, F, ok, k⟩ := h
  refine ⟨F0, H0, F, ok, fun J F1 H1 g1 gv D hD => ?_⟩
  have ok1 := ok.grow g1
  have flen : ∀ i, i ≤ zs.length → (((zs.take i).filter tb).map y).length ≤ zs.length := fun i hi => by
    rw [List.length_map]
    exact Nat.le_trans (List.length_filter_le _ _) (by rw [List.length_take]; omega)
  refine ⟨fun i n H' => i ≤ zs.length ∧ n = zs.length - i ∧ ∃ F' acc A, Grow F1 H1 F' H' ∧ F' D = none ∧ H' D = some (.lst acc) ∧ TrAll K F' H' acc (((zs.take i).filter tb).map y) A ∧ NewA H1 F' H' A ∧ D ∉ A,
    ⟨zs.length, Nat.zero_le _, rfl, F1, [], [], Grow.own g1.fh hD, g1.fh.back hD, upd_same, .nil, ⟨List.nodup_nil, fun a ha => by cases ha⟩, by simp⟩, ?_⟩
  rintro i n H' ⟨hi, rfl, F', acc, A, g2, fd, hd, ha, hnA, hDA⟩
  by_cases hlt : i < zs.length
  · have hz : zs[i]? = some zs[i] := List.getElem?_eq_getElem hlt
    have hm : zs[i] ∈ zs := List.getElem_mem hlt
    refine .inr ⟨gv.go i F' H' (by rw [List.length_map]; exact hlt) g2.ff g2.fh, fun H2 => ∃ F2 acc A, Grow F1 H1 F2 H2 ∧ F2 D = none ∧ H2 D = some (.lst acc) ∧ TrAll K F2 H2 acc (((zs.take (i + 1)).filter tb).map y) A ∧ NewA H1 F2 H2 A ∧ D ∉ A, fun H2 ⟨F2, acc2, A2, q⟩ => ⟨zs.length - (i + 1), by omega, hlt, rfl, F2, acc2, A2, q⟩, fun x H3 hy => ?_⟩
    obtain ⟨F3, g3, x3⟩ := gv.yld i (enc zs[i]) F' H' x H3 (by rw [List.getElem?_map, hz]; rfl) g2.ff g2.fh hy
    have ok3 : Ok K F0 H0 (wipeE env own) (wipe σ own) F3 H3 := (ok1.grow (g2.trans g3)).wiped own
    refine hf zs[i] hm F0 H0 F3 H3 _ _ x _ ok3 x3 fun σ4 ok4 w4 => ⟨?_, zs[i], hm, F0, H0, F3, ok4, fun F5 H5 g5 => ?_⟩
    · rw [w4 own hix]
      exact wipe_wipe own own fun _ h => h
    · have g35 := g3.trans g5
      have hD5 : F5 D = none := g35.old D fd (by rw [hd]; simp)
      have hH5 : H5 D = some (.lst acc) := g35.hh _ _ hd
      have hn5 : NewA H1 F5 H5 A := ⟨hnA.1, fun a ha => by
        obtain ⟨b1, b2, us, b3, b4⟩ := hnA.2 a ha
        exact ⟨b1, g35.old a b2 (by rw [b3]; simp), us, g35.hh _ _ b3, b4⟩⟩
      have ha5 : TrAll K F5 H5 acc (((zs.take i).filter tb).map y) A := ha.up g35.ff fun a _ us z => g35.hh _ _ z
      have ht : (zs.take (i + 1)) = zs.take i ++ [zs[i]] := by rw [List.take_add_one, hz]; rfl
      cases hb : tb zs[i] with
      | true =>
        show ∃ z, _
        refine ⟨zs[i], ⟨hm, hb⟩, F0, H0, F5, ok4.grow g5, fun v F6 H6 B g6 x6 n6 => ⟨acc, g6.hh _ _ hH5, ?_, F6, acc ++ [v], A ++ B, ?_, g6.old D hD5 (by rw [hH5]; simp), upd_same, ?_, ?_, ?_⟩⟩
        · have h1 := ha.length
          have h2 := flen i hi
          have h3 : sizeLine = 16777216 := sizeLine_eq
          omega
        · exact ((g2.trans g35).trans g6).put hD (g6.old D hD5 (by rw [hH5]; simp))
        · rw [ht, List.filter_append, List.map_append, List.filter_cons, if_pos hb]
          have h6 : TrAll K F6 (upd H6 D (.lst (acc ++ [v]))) acc (((zs.take i).filter tb).map y) A := ha5.up g6.ff fun a ha us z => by
            rw [upd_ne (show a ≠ D from fun q => hDA (q ▸ ha))]; exact g6.hh _ _ z
          have h7 : TrAll K F6 (upd H6 D (.lst (acc ++ [v]))) [v] [y zs[i]] B := by
            have := TrAll.cons (K := K) (F := F6) (H := upd H6 D (.lst (acc ++ [v]))) (x6.up (Ex.refl _) fun a ha us z => by
              rw [upd_ne (show a ≠ D from fun q => by rw [← q] at hH5; rw [(n6.2 a ha).1] at hH5; cases hH5)]; exact z) .nil
            rwa [List.append_nil] at this
          exact h6.append h7
        · refine ⟨List.nodup_append.mpr ⟨hn5.1, n6.1, fun a ha b hb z => ?_⟩, fun a ha => ?_⟩
          · subst z
            obtain ⟨_, _, us, b3, _⟩ := hn5.2 a ha
            rw [(n6.2 a hb).1] at b3; cases b3
          · have hne : a ≠ D := fun q => by
              rcases List.mem_append.mp ha with z | z
              · exact hDA (q ▸ z)
              · rw [← q] at hH5; rw [(n6.2 a z).1] at hH5; cases hH5
            rcases List.mem_append.mp ha with z | z
            · obtain ⟨b1, b2, us, b3, b4⟩ := hn5.2 a z
              exact ⟨b1, g6.old a b2 (by rw [b3]; simp), us, by rw [upd_ne hne]; exact g6.hh _ _ b3, b4⟩
            · obtain ⟨b1, b2, us, b3, b4⟩ := n6.2 a z
              exact ⟨((g2.trans g35).hh).back b1, b2, us, by rw [upd_ne hne]; exact b3, b4⟩
        · intro q
          rcases List.mem_append.mp q with z | z
          · exact hDA z
          · rw [(n6.2 D z).1] at hH5; cases hH5
      | false =>
        refine ⟨F5, acc, A, g2.trans g35, hD5, hH5, ?_, hn5, hDA⟩
        rw [ht, List.filter_append, List.map_append, List.filter_cons, if_neg (by rw [hb]; decide)]
        show TrAll K F5 H5 acc (_ ++ []) A
        rw [List.append_nil]
        exact ha5
  · have e : i = zs.length := by omega
    subst e
    rw [List.take_length] at ha
    have hacc : acc.length ≤ 1000000 := by
      have h1 := ha.length
      have h2 := flen zs.length (Nat.le_refl _)
      rw [List.take_length] at h2
      omega
    refine .inl ⟨gv.stop _ F' H' (by rw [List.length_map]; exact Nat.le_refl _) g2.ff g2.fh, k (.ref D) F' H' (D :: A) (g1.trans g2) (.node hd hacc ha) ⟨List.nodup_cons.mpr ⟨hDA, hnA.1⟩, fun a q => ?_⟩⟩
    rcases List.mem_cons.mp q with rfl | q
    · exact ⟨g1.hh.back hD, fd, acc, hd, hacc⟩
    · obtain ⟨b1, b2⟩ := hnA.2 a q
      exact ⟨g1.hh.back b1, b2⟩
theorem tr_lc {α : Type} {zs : List α} {enc : α → PyData} {g : TG} {ix : List Nat} {f : α → List Sl → List Sl} {tb : α → Bool} {y : α → Tr} {own : List (Str × Nat)}
    (hN : X.N.Nodup) (hi : PI X tg iter (tI X.K env (zs.map enc))) (hl : zs.length ≤ 1000000) (okb : blkC X.N X.env.scope scope own = true) (hg : Blk X scope fun X' => PG X' tg g)
    (hf : ∀ z ∈ zs, Asg X.K g (enc z) (f z) ix) (hix : ∀ i ∈ ix, i ∈ own.map (·.2))
    (ht : ∀ z ∈ zs, Blk X scope fun X' => PTs X' ifs (tT X.K (f z (wipeE env (own.map (·.2)))) (tb z)))
    (he : ∀ z ∈ zs, tb z = true → Blk X scope fun X' => PE X' elt (tTr X.K (f z (wipeE env (own.map (·.2)))) (y z)))
    (hc : X.calm = true := by rfl) (hs : ∀ x, foldedSetIterable iter X.env x = pure x := by intro _; rfl) : PE X (.ListComp elt [⟨tg, iter, ifs, 0⟩] scope pos) (tTr X.K env (.node ((zs.filter tb).map y))) :=
  pmono (pe_lc (te := fun σ H Q => ∃ z, (z ∈ zs ∧ tb z = true) ∧ tTr X.K (f z (wipeE env (own.map (·.2)))) (y z) σ H Q) (tt := fun σ H Q => ∃ z, (z ∈ zs) ∧ tT X.K (f z (wipeE env (own.map (·.2)))) (tb z) σ H Q) hc hN hi (blkOk_by okb) hg
    (fun s H C cl fp => ⟨fun pins s1 σ H Q I ⟨z, hz, q⟩ => (ht z hz s _ C cl fp).run pins s1 σ H Q I q⟩) (fun s H C cl fp => ⟨fun pins s1 σ H Q I ⟨z, hz, q⟩ => (he z hz.1 hz.2 s _ C cl fp).run pins s1 σ H Q I q⟩) hs) fun σ H Q h => lc_readTr hl hf hix h
theorem c_setTrLc {α : Type} {zs : List α} {enc : α → PyData} {g : TG} {ix : List Nat} {f : α → List Sl → List Sl} {tb : α → Bool} {y : α → Tr} {own : List (Str × Nat)} {xn : Str} {py spos : Pos} (i : Nat)
    (hN : X.N.Nodup) (hxi : X.N[i]? = some xn) (hi : PI X tg iter (tI X.K env (zs.map enc))) (hl : zs.length ≤ 1000000) (okb : blkC X.N X.env.scope scope own = true) (hg : Blk X scope fun X' => PG X' tg g)
    (hf : ∀ z ∈ zs, Asg X.K g (enc z) (f z) ix) (hix : ∀ i ∈ ix, i ∈ own.map (·.2))
    (ht : ∀ z ∈ zs, Blk X scope fun X' => PTs X' ifs (tT X.K (f z (wipeE env (own.map (·.2)))) (tb z)))
    (he : ∀ z ∈ zs, tb z = true → Blk X scope fun X' => PE X' elt (tTr X.K (f z (wipeE env (own.map (·.2)))) (y z)))
    (h : ∀ v, PSs X rest (tS X.K (env.set i (.tr v (.node ((zs.filter tb).map y)))) E)) (hsw : swapsWith (.ListComp elt [⟨tg, iter, ifs, 0⟩] scope pos) (some (.Name xn py)) spos.line X.env = pure true := by exact sw_true rfl rfl rfl (by decide +kernel)) (hyl : X.env.scope.names.lookup xn = some .local := by rfl)
    (hc : X.calm = true := by rfl) (hs : ∀ x, foldedSetIterable iter X.env x = pure x := by intro _; rfl) : PSs X (.Assign [.Name xn py] (.ListComp elt [⟨tg, iter, ifs, 0⟩] scope pos) spos :: rest) (tS X.K env E) :=
  s_cons (M := fun e => ∃ v, e = env.set i (.tr v (.node ((zs.filter tb).map y)))) (psmono (ps_setLc (te := fun σ H Q => ∃ z, (z ∈ zs ∧ tb z = true) ∧ tTr X.K (f z (wipeE env (own.map (·.2)))) (y z) σ H Q) (tt := fun σ H Q => ∃ z, (z ∈ zs) ∧ tT X.K (f z (wipeE env (own.map (·.2)))) (tb z) σ H Q) hc hN hxi hyl hsw hi (blkOk_by okb) hg
    (fun s H C cl fp => ⟨fun pins s1 σ H Q I ⟨z, hz, q⟩ => (ht z hz s _ C cl fp).run pins s1 σ H Q I q⟩) (fun s H C cl fp => ⟨fun pins s1 σ H Q I ⟨z, hz, q⟩ => (he z hz.1 hz.2 s _ C cl fp).run pins s1 σ H Q I q⟩) hs) fun D σ H ⟨F0, H0, F, ok, n, _⟩ =>
      lc_readTr hl hf hix ⟨F0, H0, F, ok, fun v F1 H1 A g1 x1 n1 => n _ _ F1 H1 ⟨v, rfl⟩ (ok.newTr g1 x1 n1 i)⟩) fun e ⟨v, q⟩ => q ▸ h v
/-- a list that a slot alone knows, as a tree -/
theorem Ok.ownTr {F0 H0 F H : Hp} {σ : L2.St} {j : Nat} (ok : Ok K F0 H0 env σ F H) (hj : env[j]? = some (.own ds)) (hl : ds.length ≤ 1000000) : ∃ v, Ok K F0 H0 (env.set j (.tr v (.node (ds.map .leaf)))) σ F H := by
  obtain ⟨p, vs, s1, s2, s3, s4, s5⟩ := ok.own j ds hj
  obtain ⟨Φ, c, A, m, hA⟩ := ok.trFA
  have hΦ : Φ p = none := (m.own j p ⟨s1, .inl ⟨ds, hj⟩⟩).1
  have hjl : j < σ.length := by rw [ok.len]; exact (List.getElem?_eq_some_iff.mp hj).1
  have oj := ok.forget j
  have mj : Mes K H0 (env.set j .no) σ F H Φ c := m.setE trivial
  let Φ2 : Reg := fun a => if a = p then some trQ else Φ a
  have e1 : Φ2 p = some trQ := if_pos rfl
  have e2 : ∀ a, a ≠ p → Φ2 a = Φ a := fun a h => if_neg h
  have xr : ExR Φ Φ2 := fun a q h => by rw [e2 a (fun z => by rw [z, hΦ] at h; cases h)]; exact h
  have nown : ∀ k q, OwnS (env.set j .no) σ k q → q ≠ p := fun k q h z => by
    subst z
    obtain ⟨h1, h2⟩ := OwnS.of_setE (s := .no) trivial h
    exact h1 (m.sep j k q ⟨s1, .inl ⟨ds, hj⟩⟩ h2)
  have m2 : Mes K H0 (env.set j .no) σ F H Φ2 c := by
    refine ⟨fun a e n u hq => ?_, fun k q hq => ?_, mj.sep, fun k e c' u d hk => ?_, fun k a vs e c' n u hk => ?_, fun k u ds hk => ?_, fun k e c' n m' dss hk => ?_, mj.tr.of (fun k v t z => ⟨z, rfl⟩) (Ex.refl _) fun a z => ⟨xr _ _ z, fun _ y => y⟩⟩
    · by_cases hap : a = p
      · subst hap
        rw [e1] at hq; cases hq
        exact ⟨s3, fun z => (by cases z), fun _ => s2, vs, s4, by rw [s5.length]; exact Nat.le_trans hl (Nat.le_add_right _ _), fun _ _ => trivial⟩
      · rw [e2 a hap] at hq
        obtain ⟨b1, b2, b3, us, b4, b5, b6⟩ := mj.reg a e n u hq
        exact ⟨b1, b2, b3, us, b4, b5, fun w hw => VT.up (Ex.refl _) xr _ _ (b6 w hw)⟩
    · obtain ⟨b1, b2⟩ := mj.own k q hq
      exact ⟨by rw [e2 q (nown k q hq)]; exact b1, b2⟩
    · obtain ⟨b1, w, b2, b3, b4⟩ := mj.mes k e c' u d hk
      refine ⟨b1, w, b2, VT.up (Ex.refl _) xr _ _ b3, fun x hx => (b4 x hx).up fun a o h => ?_⟩
      unfold mixH at h ⊢
      by_cases hap : a = p
      · subst hap
        rw [hΦ] at h
        rw [e1]
        simp only at h ⊢
        split
        · exact ok.g.fh _ _ h
        · exact h
      · rw [e2 a hap]; exact h
    · obtain ⟨b1, b2, b3, w, b4, b5⟩ := mj.itm k a vs e c' n u hk
      exact ⟨b1, b2, xr _ _ b3, w, b4, VT.up (Ex.refl _) xr _ _ b5⟩
    · obtain ⟨q, us, b1, b2, b3, b4⟩ := mj.ownN k u ds hk
      exact ⟨q, us, b1, b2, b3, fun w hw => VT.up (Ex.refl _) xr _ _ (b4 w hw)⟩
    · obtain ⟨b1, b0, q', vs', b2, b3, b4, b5⟩ := mj.tab k e c' n m' dss hk
      exact ⟨b1, b0, q', vs', b2, xr _ _ b3, b4, b5.up (Ex.refl _) (fun _ z => xr _ _ z) (fun _ _ _ z => z)⟩
  have hAj : TrFA K (env.set j .no) σ F H Φ A := ⟨fun k w' u' hk => by
    rcases get_set_cases hk with ⟨_, _, q⟩ | ⟨_, q⟩
    · cases q
    · exact hA.1 k w' u' q, fun k l w1 w2 u1 u2 hne hk hl => by
    rcases get_set_cases hk with ⟨_, _, q⟩ | ⟨_, q⟩
    · cases q
    · rcases get_set_cases hl with ⟨_, _, q'⟩ | ⟨_, q'⟩
      · cases q'
      · exact hA.2 k l w1 w2 u1 u2 hne q q'⟩
  have hT := hAj.set (i := j) (v := .ref p) (t := .node (ds.map .leaf)) (B := [p]) (Φ' := Φ2) hjl (.node s4 (by rw [s5.length]; exact hl) (TrAll.leaves s5)) (List.nodup_cons.mpr ⟨by simp, List.nodup_nil⟩) (fun a ha => by rw [List.mem_singleton.mp ha]; exact e1) (fun a ha k w u hne hk hm => by
    rw [List.mem_singleton.mp ha] at hm
    have := (hAj.1 k w u hk).2.2.2 p hm
    rw [hΦ] at this; cases this) (Ex.refl _) fun k w u hne hk a ha => ⟨xr _ _ ((hAj.1 k w u hk).2.2.2 a ha), fun _ z => z⟩
  have o1 := oj.setT (i := j) (s := .tr (.ref p) (.node (ds.map .leaf))) (x := some (.ref p)) trivial ⟨Φ2, c, m2.setTr ⟨_, hT⟩⟩
  rw [set_self_st s1, List.set_set] at o1
  exact ⟨_, o1⟩
theorem c_ownTr {α : Type} {enc : α → PyData} {zs : List α} (j : Nat) (hj : env[j]? = some (.own (zs.map enc))) (hl : zs.length ≤ 1000000) (h : ∀ v, PSs X sts (tS K (env.set j (.tr v (nT (lf enc) zs))) E)) : PSs X sts (tS K env E) :=
  pssmono (t := fun D σ H => ∃ v, tS K (env.set j (.tr v (nT (lf enc) zs))) E D σ H) ⟨fun pins s σ H D I ⟨v, q⟩ => (h v).run pins s σ H D I q⟩ fun D σ H ⟨F0, H0, F, ok, r⟩ => by
    obtain ⟨v, ok'⟩ := ok.ownTr hj (by rw [List.length_map]; exact hl)
    refine ⟨v, F0, H0, F, ?_, r⟩
    rw [List.map_map] at ok'
    exact ok'
/-- place.append(name), whose tree goes to the place -/
theorem s_appTrV {j : Nat} (hij : i ≠ j) (ho : env[i]? = some (.tr v (up (.node ts)))) (hE : PE X a (tPl X.K env i v up (.node ts))) (hj : X.N[j]? = some y) (hv : Vis X.env.scope y) (hoj : env[j]? = some (.tr w u)) (hz : ts.length < 1000000) (hfree : env.all trFree = true) (h : E.nx ((env.set j .no).set i (.tr v (up (.node (ts ++ [u]))))))
    (hdb : (y == ("__debug__" : Str)) = false := by decide) (hcd : (y == ("__classdict__" : Str)) = false := by decide) (hbase : attributeBase a "append" X.env (eval a X.env) = eval a X.env := by rfl) (hline : (p2.endLine == p3.line) = true := by rfl)
    (hs : swapsWith (.Call (.Attribute a "append" p2) [.Name y p1] [] p3) none pos.line X.env = pure false := by rfl) : PS X (.Expr (.Call (.Attribute a "append" p2) [.Name y p1] [] p3) pos) (tS X.K env E) :=
  psmono (ps_expr (pe_bm (hline := hline) PySem.F.plainAttrs_list PySem.F.slot_list_append PySem.F.type_list_append mt_append hE (pa_cons (pe_var hj hv hdb hcd) pa_nil) (hbase := hbase)) hs) fun D σ H ⟨F0, H0, F, ok, nx, _⟩ => by
    obtain ⟨Φ, c, A, m, hA⟩ := ok.trFA
    refine ⟨F0, H0, F, Φ, c, A, ok, m, hA, ho, fun w0 F1 H1 B C g1 f1 => ?_⟩
    have f1' := f1
    obtain ⟨hw, hperm, _⟩ := f1
    cases hw with
    | @node pp vs _ B0 h1 hlb h2 =>
      obtain ⟨t1, t2, t3, t4⟩ := hA.1 j w u hoj
      refine ⟨.inl ⟨rfl, _, .inl (.inl h1)⟩, w, t1, ?_⟩
      have o1 := (ok.grow g1).forget j
      have m1 : Mes X.K H0 (env.set j .no) σ F1 H1 Φ c := (m.grow g1 ok.g.fh ok.g.hh).setE trivial
      have hA1 := hA.grow g1.ff g1.hh
      have hAj : TrFA X.K (env.set j .no) σ F1 H1 Φ A := ⟨fun k w' u' hk => by
        rcases get_set_cases hk with ⟨_, _, q⟩ | ⟨_, q⟩
        · cases q
        · exact hA1.1 k w' u' q, fun k l w1 w2 u1 u2 hne hk hl => by
        rcases get_set_cases hk with ⟨_, _, q⟩ | ⟨_, q⟩
        · cases q
        · rcases get_set_cases hl with ⟨_, _, q'⟩ | ⟨_, q'⟩
          · cases q'
          · exact hA1.2 k l w1 w2 u1 u2 hne q q'⟩
      have hoi : (env.set j .no)[i]? = some (.tr v (up (.node ts))) := by rw [List.getElem?_set_ne (Ne.symm hij)]; exact ho
      have hBn : (pp :: B0).Nodup := (List.nodup_append.mp (nodup_perm hperm (hA.1 i v _ ho).2.2.1)).1
      have inA : ∀ a ∈ pp :: B0, a ∈ A i := fun a ha => hperm.mem_iff.mpr (List.mem_append_left _ ha)
      have outA : ∀ a ∈ A j, a ∉ A i := fun a ha hb => hA.2 j i w v u _ (Ne.symm hij) hoj ho a ha hb
      have hfr : (env.set j .no).all trFree = true := by
        rw [List.all_eq_true] at hfree ⊢
        intro s hs
        rcases List.mem_or_eq_of_mem_set hs with q | q
        · exact hfree s q
        · rw [q]; rfl
      refine ⟨pp, vs, w, rfl, rfl, h1, by rw [h2.length]; have := sizeLine_eq; omega, nx _ _ F1 _ h ?_⟩
      refine Ok.focPut (B0 := B0 ++ A j) o1 m1 hAj hoi f1' hfr h1 (by rw [List.length_append, h2.length]; simp; omega) ?_ ?_ fun a ha => ?_
      · have h3 : TrAll X.K F1 H1 [w] [u] (A j) := by
          have := TrAll.cons (t2.up g1.ff fun a _ us z => g1.hh _ _ z) (TrAll.nil (K := X.K) (F := F1) (H := H1))
          rwa [List.append_nil] at this
        exact h2.append h3
      · obtain ⟨q1, q2⟩ := List.nodup_cons.mp hBn
        refine List.nodup_cons.mpr ⟨fun hm => ?_, List.nodup_append.mpr ⟨q2, t3, fun a ha b hb z => ?_⟩⟩
        · rcases List.mem_append.mp hm with hm | hm
          · exact q1 hm
          · exact outA pp hm (inA pp (List.mem_cons_self ..))
        · subst z
          exact outA a hb (inA a (List.mem_cons_of_mem _ ha))
      · rcases List.mem_append.mp ha with ha | ha
        · exact ⟨(hA.1 i v _ ho).2.2.2 a (inA a (List.mem_cons_of_mem _ ha)), .inl (List.mem_cons_of_mem _ ha)⟩
        · refine ⟨t4 a ha, .inr ⟨fun hc => outA a ha (hperm.mem_iff.mpr (List.mem_append_right _ hc)), fun k w' u' hk hm => ?_⟩⟩
          rcases get_set_cases hk with ⟨_, _, q⟩ | ⟨ne, q⟩
          · cases q
          · exact hA.2 j k w w' u u' ne hoj q a ha hm
theorem s_retTrV (i : Nat) (hi : X.N[i]? = some x) (hv : Vis X.env.scope x) (ho : env[i]? = some (.tr v t)) (h : E.rt (.tre t)) (hdb : (x == ("__debug__" : Str)) = false := by decide) (hcd : (x == ("__classdict__" : Str)) = false := by decide) : PS X (.Return (some (.Name x p1)) pos) (tS K env E) :=
  psmono (ps_ret (pe_var hi hv hdb hcd)) fun D σ H ⟨F0, H0, F, ok, _, _, _, r⟩ => by
    obtain ⟨Φ, c, A, m, hA, s1, s2, s3, s4⟩ := ok.trG ho
    exact ⟨v, s1, r _ h v F H (A i) ok.g s2 ⟨s3, fun a ha => ⟨(s4 a ha).2.1, (s4 a ha).2.2, TrAt.lst _ _ _ s2 a ha⟩⟩⟩
theorem tr_lcA {α : Type} {zs : List α} {enc : α → PyData} {g : TG} {ix : List Nat} {f : α → List Sl → List Sl} {y : α → Tr} {own : List (Str × Nat)}
    (hN : X.N.Nodup) (hi : PI X tg iter (tI X.K env (zs.map enc))) (hl : zs.length ≤ 1000000) (okb : blkC X.N X.env.scope scope own = true) (hg : Blk X scope fun X' => PG X' tg g)
    (hf : ∀ z ∈ zs, Asg X.K g (enc z) (f z) ix) (hix : ∀ i ∈ ix, i ∈ own.map (·.2))
    (he : ∀ z ∈ zs, Blk X scope fun X' => PE X' elt (tTr X.K (f z (wipeE env (own.map (·.2)))) (y z)))
    (hc : X.calm = true := by rfl) (hs : ∀ x, foldedSetIterable iter X.env x = pure x := by intro _; rfl) : PE X (.ListComp elt [⟨tg, iter, [], 0⟩] scope pos) (tTr X.K env (nT y zs)) := by
  have h := tr_lc (pos := pos) (tb := fun _ => true) hN hi hl okb hg hf hix (fun z _ s H C cl fp => ts_nil) (fun z hz _ => he z hz) hc hs
  rwa [map_filter_true] at h
theorem c_setTrLcA {α : Type} {zs : List α} {enc : α → PyData} {g : TG} {ix : List Nat} {f : α → List Sl → List Sl} {y : α → Tr} {own : List (Str × Nat)} {xn : Str} {py spos : Pos} (i : Nat)
    (hN : X.N.Nodup) (hxi : X.N[i]? = some xn) (hi : PI X tg iter (tI X.K env (zs.map enc))) (hl : zs.length ≤ 1000000) (okb : blkC X.N X.env.scope scope own = true) (hg : Blk X scope fun X' => PG X' tg g)
    (hf : ∀ z ∈ zs, Asg X.K g (enc z) (f z) ix) (hix : ∀ i ∈ ix, i ∈ own.map (·.2))
    (he : ∀ z ∈ zs, Blk X scope fun X' => PE X' elt (tTr X.K (f z (wipeE env (own.map (·.2)))) (y z)))
    (h : ∀ v, PSs X rest (tS X.K (env.set i (.tr v (nT y zs))) E)) (hsw : swapsWith (.ListComp elt [⟨tg, iter, [], 0⟩] scope pos) (some (.Name xn py)) spos.line X.env = pure true := by exact sw_true rfl rfl rfl (by decide +kernel)) (hyl : X.env.scope.names.lookup xn = some .local := by rfl)
    (hc : X.calm = true := by rfl) (hs : ∀ x, foldedSetIterable iter X.env x = pure x := by intro _; rfl) : PSs X (.Assign [.Name xn py] (.ListComp elt [⟨tg, iter, [], 0⟩] scope pos) spos :: rest) (tS X.K env E) :=
  c_setTrLc (tb := fun _ => true) i hN hxi hi hl okb hg hf hix (fun z _ s H C cl fp => ts_nil) (fun z hz _ => he z hz) (by rw [map_filter_true]; exact h) hsw hyl hc hs
theorem c_forTrE {α : Type} {ts ts' : List Tr} {n j : Nat} (zs : List α) (g g' : α → Tr) (rs : List Tr) (U : Nat → List (Nat × Sl)) (hp : PassesOwn (model X.prog X.w) X.A X.env X.xe) (hup : UpOk up) (ho : env[i]? = some (.tr v (up (.node ts)))) (hts : ts = zs.map g ++ rs) (hts' : zs.map g' ++ rs = ts') (hn : n = zs.length) (hi : PI X (.Name y p3) iter (tTrG X.K env i v up ts n)) (hN : X.N.Nodup) (hj : X.N[j]? = some y) (hij : i ≠ j) (hjl : j < env.length)
    (h0 : LeE env (setAll env (U 0))) (hU : ∀ k, (setAll env (U k))[i]? = env[i]?)
    (hb : ∀ (k : Nat) (z : α) (w : V) (t' : Tr), zs[k]? = some z → PSs X body (tS X.K (((setAll env (U k)).set i (.tr v t')).set j (.tr w (g z))) ⟨fun e => LeE e (((setAll env (U (k + 1))).set i (.tr v t')).set j (.tr w (g' z))), E.rt, fun _ => False, fun e => LeE e (((setAll env (U (k + 1))).set i (.tr v t')).set j (.tr w (g' z)))⟩))
    (hd : PSs X rest (tS X.K (((setAll env (U zs.length)).set i (.tr v (up (.node ts')))).set j .no) E)) (hx : Loc X.env.scope y := by first | exact .inl rfl | exact .inr rfl) (hf : X.fn y = true ∨ X.env.scope.names.lookup y = some .local := by first | exact .inl rfl | exact .inr rfl)
    (hc : X.calm = true := by rfl) (hs : ∀ x, foldedSetIterable iter X.env x = pure x := by intro _; rfl) : PSs X (.For (.Name y p3) iter body [] pos :: rest) (tS X.K env E) := by
  subst hts hts' hn
  exact c_forTr U hp hup ho hi hN hj hij hjl h0 hU hb hd hx hf hc hs
end
end D3
namespace D3
open PySem PySem.Spec L2 PyProof.Rows

/-! ### defs that ask for repr: run where no repr is under way -/
structure FnOkG (P : Program) (w : World) (K : KF) (mg : Str → Option Value) (base : Heap) (k : Nat) (f : Addr) (fd : FuncData) (ps : List Str) (sp : Sp) : Prop where
  len : ∀ vs H Q E, sp vs H Q E → vs.length = ps.length
  run : ∀ (A : Around) (outer : List Env) (s : Shared) (H : Hp) (args : Args) (us : List Value) (vs : List V) (Q : VK) (E : XK), Room k A → A.guards = some [] → Env0 P w K mg base A outer s H → BindsTo s fd args (ps.zip us) → Vals vs us → sp vs H Q E →
    codeAny (model P w) A (.call (.ref f) args) (CR CX0 outer P w H s Q E) s
def DefG (P : Program) (w : World) (K : KF) (mg : Str → Option Value) (base : Heap) (k : Nat) (x : Str) (sp : Sp) : Prop := ∃ f fd ps, FnOkG P w K mg base k f fd ps sp ∧ mg x = some (.ref f) ∧ PySem.W.keepIn K (.ref f) = true ∧ Binds K fd ps []
theorem DefG.up {P : Program} {w : World} {K : KF} {mg : Str → Option Value} {base : Heap} {j k : Nat} {x : Str} {sp : Sp} (h : DefG P w K mg base j x sp) (l : j ≤ k) : DefG P w K mg base k x sp := by
  obtain ⟨f, fd, ps, a, b⟩ := h
  exact ⟨f, fd, ps, ⟨a.len, fun A outer s H args us vs Q E hr => a.run A outer s H args us vs Q E (hr.mono l)⟩, b⟩
theorem At.defG {P : Program} {w : World} {K : KF} {mg : Str → Option Value} {base : Heap} {k : Nat} {x : Str} {st : Stmt} {ps : List Str} {sp : Sp} (a : At K mg x st ps) (h : ∀ f fd, Fn K x x st f fd → FnOkG P w K mg base k f fd ps sp) : DefG P w K mg base k x sp := by
  obtain ⟨f, fd, F, hm, hb⟩ := a.ex
  exact ⟨f, fd, ps, h f fd F, hm, F.kp, hb⟩
section
variable {P : Program} {w : World} {K : KF} {mg : Str → Option Value} {base : Heap} {x qual : Str} {st : Stmt} {f : Addr} {fd : FuncData} {N ps : List Str} {k : Nat} {R : List PyData → RS → Prop}
theorem def_okG (F : Fn K x qual st f fd) (S : FnScope N ps (defScope st))
    (hb : ∀ (cdv : Value) (A : Around) (outer : List Env) (s : Shared) (H : Hp) (E : XK) (ds : List PyData) (r : RS), Room k (A.deeper (PyProof.Rows.envOfC qual (defScope st) s.heap.objs.size f cdv)) → (A.deeper (PyProof.Rows.envOfC qual (defScope st) s.heap.objs.size f cdv)).guards = some [] → ds.length = ps.length → R ds r →
      PSs (cx0 P w K mg base N qual st f cdv A outer s H E) (defBody st) (tS K (env0 N.length ds) ⟨fun _ => r = .dat .none, (· = r), fun _ => False, fun _ => False⟩)) : FnOkG P w K mg base (k + 1) f fd ps (spD K ps.length R) := by
  obtain ⟨oc, od, dV, kV, doc, pm, an, cdv, ct, osl, e, lk, hcd, _, _⟩ := F.ex
  subst e
  have len : ∀ vs H Q E, spD K ps.length R vs H Q E → vs.length = ps.length := fun vs H Q E ⟨F, ds, r, e, h, hl, _⟩ => by rw [h.length, hl]
  refine ⟨len, fun A outer s H args us vs Q E hr hgd e0 hb2 r hsp => ?_⟩
  have hl := len _ _ _ _ hsp
  have KX : K.In s.heap := e0.mod.kin.keeps fun b o e => (e0.bs b o e).1
  have lim : s.heap.NoLimit := e0.mod.nolimit.keeps fun b o e => (e0.bs b o e).1
  have hkind : ∀ y ∈ ps.zip us, (defScope st).names.lookup y.1 = some .local ∨ ((defScope st).names.lookup y.1 = some .cell ∧ ((cellsFrom (s.heap.objs.size + 1) (defScope st).names []).lookup y.1).isSome = true) := fun ⟨n, v⟩ hy => by
    rcases S.par n (List.of_mem_zip hy).1 with q | q
    · exact .inl q
    · exact .inr ⟨q, PySem.W.cellsFrom_some _ _ _ (.inl q)⟩
  refine codeAny_call_function hr.depth (KX _ _ lk) rfl S.co S.gen rfl (PySem.W.codeRec_of KX hcd) (hb2 _ _ _ _ ?_)
  refine wpAny_newFunctionEnv_cells S.kind hkind fun env he s1 x => ?_
  subst he
  refine ⟨lim.keeps x.toInCall.keep, codeAny_func ?_⟩
  obtain ⟨F0, ds, rr, e1, h1, hl1, hR, hQ⟩ := hsp
  have ht := PSs.nox (hb cdv A outer s H E ds rr (hr.deeper _) hgd hl1 hR)
  have hq : tS K (env0 N.length ds) ⟨fun _ => rr = .dat .none, (· = rr), fun _ => False, fun _ => False⟩ { nx := fun _ H' => Q .non H', rt := Q } (L2.start N vs) H := by
    refine ⟨F0, H, F0, ok_start N e1 h1, fun env' σ' F' H' hr' ok' => ?_, fun _ _ _ _ z => z.elim, fun _ _ _ _ z => z.elim, fun r' hr' => ?_⟩
    · subst hr'
      exact hQ .non F' H' ok'.g .non
    · subst hr'
      exact hQ
  have I : Inv (cxOf CX0 P w K mg base N qual (defScope st) f cdv A outer s H E) [] (L2.start N vs) H s1 := inv_start S hr.hd e0 hl r x
  refine wpAny_mono (ht.run [] s1 (L2.start N vs) H _ I hq) (fun fl s' hs => ?_) fun e s' hs => hs
  have fin : ∀ {σ' : L2.St} {H' : Hp} {v : V} {u : Value}, Inv (cxOf CX0 P w K mg base N qual (defScope st) f cdv A outer s H E) [] σ' H' s' → RelV v u → Q v H' → CE outer P w H s Q u s' :=
    fun {σ' H' v u} J rv q => ⟨v, H', J.os, J.bare, J.base, J.hok, rv, q⟩
  cases fl with
  | ret u =>
    obtain ⟨v, σ', H', J, rv, q⟩ := hs
    exact fin J rv q
  | next =>
    obtain ⟨σ', H', J, q⟩ := hs
    exact fin (v := V.non) (u := Value.none) J rfl q
  | brk =>
    obtain ⟨_, _, _, q⟩ := hs
    exact False.elim q
  | cont =>
    obtain ⟨_, _, _, q⟩ := hs
    exact False.elim q
end
section
variable {X : Cx} {K : KF} {e a b : Expr} {es : List Expr} {env : List Sl} {d : PyData} {ds rs : List PyData} {pos p p1 : Pos} {k n : Nat} {x : Str} {m : Bool} {R : List PyData → RS → Prop} {f : Addr} {fd : FuncData} {ps : List Str} {sp : Sp} {t : TA}
theorem run_fnG {pins : List (Addr × Obj)} {σ : L2.St} {H : Hp} {s : Shared} {Q : VK} {us : List Value} {vs : List V} (F : FnOkG X.prog X.w X.K X.mg X.base k f fd ps sp) (hr : Room k X.A) (hgd : X.A.guards = some []) (hb : Binds X.K fd ps [])
    (I : Inv X pins σ H s) (r : Vals vs us) (h : sp vs H Q E0) : wpAny (model X.prog X.w) X.A (call (.ref f) us) (EP X pins σ Q) X.xe s := by
  have hl : us.length = ps.length := by rw [← r.length]; exact F.len _ _ _ _ h
  refine wpAny_call (codeAny_mono (F.run X.A X.stack s H ⟨us, []⟩ us vs Q _ hr hgd I.env0 (by have := hb s us I.kIn (by simpa using hl); simpa using this) r h) fun r s' hq => ?_)
  cases r with
  | error e => exact pass0 pins σ H s e s' I hq
  | ok fl =>
    cases fl with
    | ret u => exact I.after hq
    | next => exact False.elim hq
    | brk => exact False.elim hq
    | cont => exact False.elim hq
theorem pe_callG (F : FnOkG X.prog X.w X.K X.mg X.base k f fd ps sp) (hr : Room k X.A) (hgd : X.A.guards = some []) (hg : Gl X x) (hm : X.mg x = some (.ref f)) (hk : PySem.W.keepIn X.K (.ref f) = true) (hb : Binds X.K fd ps [])
    (ha : PA X (e :: es) t) (hdb : (x == ("__debug__" : Str)) = false := by decide) (he : starEach (e :: es) X.env = (false, eval e X.env) :: starEach es X.env := by rfl) (hpl : (backTo pos (starEach es X.env)).any (·.1) = false := by rfl) :
    PE X (.Call (.Name x p) (e :: es) [] pos) (fun σ H Q => t σ H fun vs H1 => sp vs H1 Q E0) := by
  refine ⟨fun pins s σ H Q I h => ?_⟩
  refine wpAny_Call_Name_kw (ld_glob I hg hm ?_ hdb)
  refine PySem.W.callWith_K (h₀ := X.base) I.ok.mod.kin hk (thn (ha.run pos pins s σ H _ I h) fun us s1 ⟨vs, H1, I1, r, q⟩ => ⟨I1.kIn, ?_⟩) he hpl
  exact run_fnG F hr hgd hb I1 r q
theorem e_callG (D : DefG X.prog X.w X.K X.mg X.base k x (spD X.K n R)) (hr : Room k X.A) (hgd : X.A.guards = some []) (ha : PA X (e :: es) (tA X.K true env ds)) (hn : ds.length = n) (hR : R ds (.dat d)) (hg : Gl X x := by rfl) (hdb : (x == ("__debug__" : Str)) = false := by decide)
    (he : starEach (e :: es) X.env = (false, eval e X.env) :: starEach es X.env := by rfl) (hpl : (backTo pos (starEach es X.env)).any (·.1) = false := by rfl) : PE X (.Call (.Name x p) (e :: es) [] pos) (tE X.K m env d) := by
  obtain ⟨f, fd, ps, Fo, hm, hk, hb⟩ := D
  exact pmono (pe_callG Fo hr hgd hg hm hk hb ha hdb he hpl) fun σ H Q ⟨F0, H0, F, ok, q⟩ => ⟨F0, H0, F, ok, fun vs F1 H1 g1 x1 => ⟨F1, ds, .dat d, g1.fh, x1, hn, hR, fun v F2 H2 g2 x2 => q v F2 H2 (g1.trans g2) (seldn g2.fh x2)⟩⟩
/-- a list is unpacked -/
theorem asg_lst {gs : TGs} {f : List Sl → List Sl} {ix : List Nat} {n : Nat} (h : AsgS K gs ds f ix) (hn : ds.length = n) : Asg K (gLst K n gs) (.list ds) f ix := fun F0 H0 F H env σ v Q ok hd k => by
  cases hd with
  | lst h1 h2 => exact ⟨_, _, rfl, sqOf (ok.g.fh _ _ h1), by rw [h2.length, hn], h F0 H0 F H env σ _ _ ok h2 k⟩
end
section
variable {X : Cx} {K : KF} {iter : Expr} {env : List Sl} {pos p3 : Pos} {E : DE} {y : Str} {i : Nat} {body rest : List Stmt} {v : V} {up : Tr → Tr}
/-- all items of the list are walked -/
theorem c_forTrN {α : Type} {ts : List Tr} {n j : Nat} (zs : List α) (g g' : α → Tr) (U : Nat → List (Nat × Sl)) (hp : PassesOwn (model X.prog X.w) X.A X.env X.xe) (hup : UpOk up) (ho : env[i]? = some (.tr v (up (.node ts)))) (hts : ts = zs.map g) (hn : n = zs.length) (hi : PI X (.Name y p3) iter (tTrG X.K env i v up ts n)) (hN : X.N.Nodup) (hj : X.N[j]? = some y) (hij : i ≠ j) (hjl : j < env.length)
    (h0 : LeE env (setAll env (U 0))) (hU : ∀ k, (setAll env (U k))[i]? = env[i]?)
    (hb : ∀ (k : Nat) (z : α) (w : V) (t' : Tr), zs[k]? = some z → PSs X body (tS X.K (((setAll env (U k)).set i (.tr v t')).set j (.tr w (g z))) ⟨fun e => LeE e (((setAll env (U (k + 1))).set i (.tr v t')).set j (.tr w (g' z))), E.rt, fun _ => False, fun e => LeE e (((setAll env (U (k + 1))).set i (.tr v t')).set j (.tr w (g' z)))⟩))
    (hd : PSs X rest (tS X.K (((setAll env (U zs.length)).set i (.tr v (up (.node (zs.map g'))))).set j .no) E)) (hx : Loc X.env.scope y := by first | exact .inl rfl | exact .inr rfl) (hf : X.fn y = true ∨ X.env.scope.names.lookup y = some .local := by first | exact .inl rfl | exact .inr rfl)
    (hc : X.calm = true := by rfl) (hs : ∀ x, foldedSetIterable iter X.env x = pure x := by intro _; rfl) : PSs X (.For (.Name y p3) iter body [] pos :: rest) (tS X.K env E) :=
  c_forTrE zs g g' [] U hp hup ho (by rw [hts, List.append_nil]) (List.append_nil _) hn hi hN hj hij hjl h0 hU hb hd hx hf hc hs
end
end D3
namespace D3
open PySem PySem.Spec L2 PyProof.Rows

/-! ### texts -/
def chAt (z : Str) (i : Int) : Str := ⟨#[z.cps.toList.getD i.toNat 0]⟩
def strI (i : Int) : Str := Str.ofString (toString i)
def chs (z : Str) : List Str := z.cps.toList.map fun c => ⟨#[c]⟩
section
variable {X : Cx} {K : KF} {e a b c : Expr} {es : List Expr} {m m1 m2 m3 : Bool} {env : List Sl} {d d1 d2 : PyData} {ds ds1 ds2 : List PyData} {pos p p1 p2 p3 p4 : Pos} {x y : Str} {i j : Int} {E : DE} {st : Stmt} {rest : List Stmt} {z : Str} {n : Int}
theorem op_repS : OpR X (binaryOp .Mult) (fun x y H Q => ∃ z n, x = .str z ∧ y = .int n ∧ MulOk z n ∧ Q (.str (Txt.mul z n)) H) := by
  intro pins s σ H x y v u Q I rx ry h
  obtain ⟨z, n, rfl, rfl, hok, q⟩ := h
  obtain ⟨t, rfl⟩ := rx
  obtain ⟨t', rfl⟩ := ry
  exact SB.mul hok fun t' k => ⟨.str (Txt.mul z n), H, I.tok _, ⟨_, rfl⟩, q⟩
theorem e_repS (ha : PE X a (tE X.K true env (.str z))) (hb : PE X b (tE X.K true env (.int n))) (h : z.length ≤ 16 ∧ -(2 ^ 63) ≤ n ∧ n ≤ 1048576) : PE X (.BinOp a .Mult b pos) (tE X.K m env (.str (Txt.mul z n))) :=
  e_bin op_repS ha hb (fun x y H Q hx hy q => by cases hx; cases hy; exact ⟨z, n, rfl, rfl, mulOk_of 16 1048576 h.1 h.2.2 h.2.1 (by decide) (by decide), q⟩) fun _ => .str _
theorem e_chAt (h : PE X a (tE X.K true env (.str z))) (hb : PE X b (tE X.K true env (.int i))) (hi : 0 ≤ i ∧ i < (z.length : Int)) (hz : z.length ≤ sizeLine) (hs : PlainIx b := by exact fun _ _ => rfl) : PE X (.Subscript a b pos) (tE X.K m env (.str (chAt z i))) := by
  refine e_ixS h hb hz ?_ hs
  have hl : z.cps.toList.length = z.length := by simp [Str.length]
  unfold L2.atI ixN
  rw [if_pos hi.1, if_pos (by rw [hl]; exact hi.2), List.getD_eq_getElem?_getD]
  show z.cps.toList[i.toNat]? = _
  rw [List.getElem?_eq_getElem (by rw [hl]; omega)]; rfl
theorem e_strI (hm : X.mg "str" = none) (h : PE X e (tE X.K true env (.int i))) (hl : i.natAbs.log2 < 1920) (hg : Gl X "str" := by rfl) (hv : bootBuiltins "str" = some (.type "str") := by decide +kernel) (ns : NS X e := by exact fun _ => rfl) : PE X (.Call (.Name "str" p1) [e] [] pos) (tE X.K m env (.str (strI i))) :=
  pmono (pe_callTy call_str_int hg hm hv (pa_cons h pa_nil (ns [])) (he := ns [])) fun σ H Q ⟨F0, H0, F, ok, k⟩ => ⟨F0, H0, F, ok, fun v F1 H1 g1 x => by
    cases x
    exact ⟨i, rfl, hl, k _ F1 H1 g1 (.str _)⟩⟩
/-- one sign in a text -/
theorem c_inSign {u : Str} (ha : PE X a (tE X.K m1 env (.str u))) (hu : u.length = 1) (hb : PE X b (tE X.K m2 env (.str z))) (hm : behindInMarks .In b = false := by rfl) : (PE X (.Compare a [.In] [b] pos) (tE X.K m env (.bool (decide (u.cps.toList.getD 0 0 ∈ z.cps.toList))))) ∧ PT X (.Compare a [.In] [b] pos) (tT X.K env (decide (u.cps.toList.getD 0 0 ∈ z.cps.toList))) :=
  cmpE op_in_sign ha hb hm fun x y H Q hx hy q => by
    cases hx; cases hy
    obtain ⟨⟨l⟩⟩ := u
    have hl : l.length = 1 := by simpa [Str.length] using hu
    obtain ⟨c, rfl⟩ : ∃ c, l = [c] := by
      cases l with
      | nil => cases hl
      | cons c l => cases l with
        | nil => exact ⟨c, rfl⟩
        | cons d l => cases hl
    exact ⟨c, z, rfl, rfl, q⟩
theorem c_notInSign {u : Str} (ha : PE X a (tE X.K m1 env (.str u))) (hu : u.length = 1) (hb : PE X b (tE X.K m2 env (.str z))) (hm : behindInMarks .NotIn b = false := by rfl) : (PE X (.Compare a [.NotIn] [b] pos) (tE X.K m env (.bool (!decide (u.cps.toList.getD 0 0 ∈ z.cps.toList))))) ∧ PT X (.Compare a [.NotIn] [b] pos) (tT X.K env (!decide (u.cps.toList.getD 0 0 ∈ z.cps.toList))) :=
  cmpE op_notIn_sign ha hb hm fun x y H Q hx hy q => by
    cases hx; cases hy
    obtain ⟨⟨l⟩⟩ := u
    have hl : l.length = 1 := by simpa [Str.length] using hu
    obtain ⟨c, rfl⟩ : ∃ c, l = [c] := by
      cases l with
      | nil => cases hl
      | cons c l => cases l with
        | nil => exact ⟨c, rfl⟩
        | cons d l => cases hl
    exact ⟨c, z, rfl, rfl, q⟩
/-- in, for typed items -/
theorem any_eqv {α : Type} [DecidableEq α] {enc : α → PyData} (q : EqOk enc) (x : α) : ∀ xs : List α, ((xs.map enc).any fun z => PyData.eqv z (enc x)) = decide (x ∈ xs)
  | [] => rfl
  | z :: zs => by
    rw [List.map_cons, List.any_cons, any_eqv q x zs, q.eq]
    by_cases h : x = z
    · subst h; simp
    · have h' : ¬ z = x := fun w => h w.symm
      by_cases h2 : x ∈ zs <;> simp [h, h', h2]
theorem c_inG {α : Type} [DecidableEq α] {enc : α → PyData} {u : α} {xs : List α} (q : EqOk enc) (hu : X.A.units + 65 < cLine) (ha : PE X a (tE X.K m1 env (enc u))) (hb : PE X b (tE X.K m2 env (eL enc xs))) (s1 : SeqAt.shaped (enc u) = true) (s2 : SeqAt.shaped (eL enc xs) = true) (hm : behindInMarks .In b = false := by rfl) : (PE X (.Compare a [.In] [b] pos) (tE X.K m env (.bool (decide (u ∈ xs))))) ∧ PT X (.Compare a [.In] [b] pos) (tT X.K env (decide (u ∈ xs))) :=
  cmpE (op_inD hu) ha hb hm fun x y H Q hx hy w => ⟨enc u, xs.map enc, Dq.dp _ _ hx, Dq.dp _ _ hy, s1, s2, by rw [any_eqv q]; exact w⟩
theorem c_notInG {α : Type} [DecidableEq α] {enc : α → PyData} {u : α} {xs : List α} (q : EqOk enc) (hu : X.A.units + 65 < cLine) (ha : PE X a (tE X.K m1 env (enc u))) (hb : PE X b (tE X.K m2 env (eL enc xs))) (s1 : SeqAt.shaped (enc u) = true) (s2 : SeqAt.shaped (eL enc xs) = true) (hm : behindInMarks .NotIn b = false := by rfl) : (PE X (.Compare a [.NotIn] [b] pos) (tE X.K m env (.bool (!decide (u ∈ xs))))) ∧ PT X (.Compare a [.NotIn] [b] pos) (tT X.K env (!decide (u ∈ xs))) :=
  cmpE (op_notInD hu) ha hb hm fun x y H Q hx hy w => ⟨enc u, xs.map enc, Dq.dp _ _ hx, Dq.dp _ _ hy, s1, s2, by rw [any_eqv q]; exact w⟩
/-- for c in text -/
theorem i_str {tg : Expr} (h : PE X e (tE X.K true env (.str z))) : PI X tg e (tI X.K env ((chs z).map .str)) := pimono (pi_str h) fun σ H R ⟨F0, H0, F, ok, k⟩ => ⟨F0, H0, F, ok, fun v F1 H1 g1 x => by
  cases (show Dq X.K F1 v (.str z) from x)
  have hlen : ((chs z).map PyData.str).length = z.cps.toList.length := by simp [chs]
  refine ⟨z, rfl, k _ F1 H1 g1 ⟨fun i F' H' hi _ _ => ?_, fun i F' H' hi _ _ => ?_, fun i d F' H' x H'' hd e1 e2 hy => ?_⟩⟩
  · rw [hlen] at hi
    show i < z.cps.size
    simpa using hi
  · rw [hlen] at hi
    show z.cps.size ≤ i
    simpa using hi
  · obtain ⟨rfl, c, hc, rfl⟩ := hy
    have : d = .str ⟨#[c]⟩ := by
      unfold chs at hd
      rw [List.getElem?_map, List.getElem?_map, Array.getElem?_toList, hc] at hd
      exact (Option.some.inj hd).symm
    subst this
    exact ⟨F', Grow.refl e2, .str _⟩⟩
/-- isinstance of a list -/
theorem e_isiD (hm : X.mg "isinstance" = none) (ha : PE X a (tE X.K m1 env d)) (hb : PE X b (tC (.ty "list"))) (hd : ∃ ds, d = .list ds) (hg : Gl X "isinstance" := by rfl) (na : NS X a := by exact fun _ => rfl) (nb : NS X b := by exact fun _ => rfl) :
    PE X (.Call (.Name "isinstance" p1) [a, b] [] pos) (tE X.K m env (.bool true)) := by
  obtain ⟨ds, rfl⟩ := hd
  exact e_isi hm ha hb isi_list_list hg na nb
/-- x.pop() -/
theorem s_popD {xn : Str} (k : Nat) (hi : X.N[k]? = some xn) (hv : Vis X.env.scope xn) (ho : env[k]? = some (.own ds)) (hne : 0 < ds.length) (h : E.nx (env.set k (.own ds.dropLast)))
    (hd : (xn == ("__debug__" : Str)) = false := by decide) (hcd : (xn == ("__classdict__" : Str)) = false := by decide)
    (hbase : attributeBase (.Name xn p1) "pop" X.env (eval (.Name xn p1) X.env) = eval (.Name xn p1) X.env := by rfl) (hline : (p2.endLine == p3.line) = true := by rfl)
    (hs : swapsWith (.Call (.Attribute (.Name xn p1) "pop" p2) [] [] p3) none pos.line X.env = pure false := by rfl) : PS X (.Expr (.Call (.Attribute (.Name xn p1) "pop" p2) [] [] p3) pos) (tS X.K env E) :=
  psmono (ps_expr (pe_bm0 (hline := hline) PySem.F.plainAttrs_list PySem.F.slot_list_pop PySem.F.type_list_pop mt_pop (pe_var hi hv hd hcd) (hbase := hbase)) hs) fun D σ H ⟨F0, H0, F, ok, n, _⟩ => by
    obtain ⟨p, vs, h1, h2, h3, h4, h5⟩ := ok.own k ds ho
    have hl := h5.length
    refine ⟨.ref p, h1, .inl ⟨rfl, _, .inl (.inl h4)⟩, p, vs, vs[vs.length - 1], rfl, rfl, h4, List.getElem?_eq_getElem (by omega), n _ _ F _ h (ok.put ho h1 ?_)⟩
    have := h5.take (vs.length - 1)
    rw [List.dropLast_eq_take, List.dropLast_eq_take, ← hl]
    exact this
/-- the kind of a law: the first item of a tuple -/
theorem e_ix0 {k : Str} (h : PE X a (tE X.K true env d)) (hd : ∃ ds, d = .tuple (.str k :: ds)) : PE X (.Subscript a (.Constant (.int 0) j.toNat p1) pos) (tE X.K m env (.str k)) := by
  obtain ⟨ds, rfl⟩ := hd
  exact e_ixT h e_int (by unfold L2.atI ixN; simp)
end
end D3
namespace D3
open PySem PySem.Spec L2 PyProof.Rows

/-! ### comprehensions with two fors -/
def lc2V {α β γ : Type} (tb : α → Bool) (ws : α → List β) (tb1 : α → β → Bool) (y : α → β → γ) (zs : List α) : List γ := (zs.filter tb).flatMap fun z => ((ws z).filter (tb1 z)).map (y z)
theorem lc2V_succ {α β γ : Type} {tb : α → Bool} {ws : α → List β} {tb1 : α → β → Bool} {y : α → β → γ} {zs : List α} {i : Nat} {z : α} (h : zs[i]? = some z) : lc2V tb ws tb1 y (zs.take (i + 1)) = lc2V tb ws tb1 y (zs.take i) ++ (if tb z = true then ((ws z).filter (tb1 z)).map (y z) else []) := by
  unfold lc2V
  rw [List.take_add_one, h]
  simp only [Option.toList_some, List.filter_append, List.flatMap_append]
  congr 1
  rw [List.filter_cons]
  split <;> simp
section
variable {X : Cx} {K : KF} {e elt tg tg1 iter iter1 : Expr} {ifs ifs1 : List Expr} {env : List Sl} {pos p1 : Pos} {scope : Scope}
/-- stores a datum into slots, whatever the heap becomes -/
def AsgM (K : KF) (g : TG) (d : PyData) (f : List Sl → List Sl) (ix : List Nat) : Prop := ∀ (F0 H0 F H : Hp) (env : List Sl) (σ : L2.St) (v : V) (Q : L2.St → Hp → Prop), Ok K F0 H0 env σ F H → Dq K F v d →
  (∀ σ', (∀ F' H', Ex F F' → Ok K F0 H0 env σ F' H' → Ok K F0 H0 (f env) σ' F' H') → (∀ vs : List Nat, (∀ i ∈ ix, i ∈ vs) → wipe σ' vs = wipe σ vs) → Q σ' H) → g v σ H Q
def AsgSM (K : KF) (g : TGs) (ds : List PyData) (f : List Sl → List Sl) (ix : List Nat) : Prop := ∀ (F0 H0 F H : Hp) (env : List Sl) (σ : L2.St) (vs : List V) (Q : L2.St → Hp → Prop), Ok K F0 H0 env σ F H → DqAll K F vs ds →
  (∀ σ', (∀ F' H', Ex F F' → Ok K F0 H0 env σ F' H' → Ok K F0 H0 (f env) σ' F' H') → (∀ vs : List Nat, (∀ i ∈ ix, i ∈ vs) → wipe σ' vs = wipe σ vs) → Q σ' H) → g vs σ H Q
theorem asgm_name {i : Nat} {d : PyData} : AsgM K (gName i) d (fun env => env.set i (.dat d)) [i] := fun F0 H0 F H env σ v Q ok hd k => k _ (fun F' H' xf ok' => ok'.setDat (hd.up xf)) fun vs h => wipe_set (h i (by simp))
theorem asgm_nil : AsgSM K gNil [] (fun env => env) [] := fun F0 H0 F H env σ vs Q ok hd k => by
  cases hd
  exact ⟨rfl, k σ (fun _ _ _ o => o) fun _ _ => rfl⟩
theorem asgm_cons {g : TG} {gs : TGs} {d : PyData} {ds : List PyData} {f fs : List Sl → List Sl} {ix jx : List Nat} (h1 : AsgM K g d f ix) (h2 : AsgSM K gs ds fs jx) : AsgSM K (gCons g gs) (d :: ds) (fun env => fs (f env)) (ix ++ jx) := fun F0 H0 F H env σ vs Q ok hd k => by
  cases hd with
  | cons x1 x2 =>
    refine ⟨_, _, rfl, h1 F0 H0 F H env σ _ _ ok x1 fun σ1 ok1 w1 => h2 F0 H0 F H _ σ1 _ _ (ok1 F H (Ex.refl _) ok) x2 fun σ2 ok2 w2 => k σ2 (fun F' H' xf o => ok2 F' H' xf (ok1 F' H' xf o)) fun vs h => ?_⟩
    rw [w2 vs fun i hi => h i (List.mem_append_right _ hi), w1 vs fun i hi => h i (List.mem_append_left _ hi)]
theorem asgm_tup {gs : TGs} {ds : List PyData} {f : List Sl → List Sl} {ix : List Nat} {n : Nat} (h : AsgSM K gs ds f ix) (hn : ds.length = n) : AsgM K (gTup K n gs) (.tuple ds) f ix := fun F0 H0 F H env σ v Q ok hd k => by
  cases hd with
  | tup h1 h2 => exact ⟨_, _, rfl, ex_t ok.g.fh h1, by rw [h2.length, hn], h F0 H0 F H env σ _ _ ok h2 k⟩
theorem lc_read2 {α β : Type} {zs : List α} {enc : α → PyData} {g : TG} {ix : List Nat} {f : α → List Sl → List Sl} {tb : α → Bool} {ws : α → List β} {encB : β → PyData} {g1 : TG} {ix1 : List Nat} {f1 : β → List Sl → List Sl} {tb1 : α → β → Bool} {y : α → β → PyData} {own vs1 : List Nat}
    (hT : (lc2V tb ws tb1 y zs).length ≤ 1000000)
    (hf : ∀ z ∈ zs, AsgM K g (enc z) (f z) ix) (hix : ∀ i ∈ ix, i ∈ own) (hf1 : ∀ z ∈ zs, ∀ w ∈ ws z, Asg K g1 (encB w) (f1 w) ix1) (hix1 : ∀ i ∈ ix1, i ∈ vs1) {σ : L2.St} {H : Hp} {Q : VK} (h : tO K env (lc2V tb ws tb1 y zs) σ H Q) :
    tLc2 (tI K env (zs.map enc)) g (fun σ H Q => ∃ z, (z ∈ zs) ∧ tT K (f z (wipeE env own)) (tb z) σ H Q)
      (fun σ H R => ∃ z, (z ∈ zs ∧ tb z = true) ∧ tI K (f z (wipeE env own)) ((ws z).map encB) σ H R) g1
      (fun σ H Q => ∃ z w, (z ∈ zs ∧ w ∈ ws z) ∧ tT K (f1 w (wipeE (f z (wipeE env own)) vs1)) (tb1 z w) σ H Q) (fun σ H Q => ∃ z w, ((z ∈ zs ∧ w ∈ ws z) ∧ tb1 z w = true) ∧ tE K true (f1 w (wipeE (f z (wipeE env own)) vs1)) (y z w) σ H Q) own vs1 σ H Q := by
  obtain ⟨F0, H0, F, ok, k⟩ := h
  refine ⟨F0, H0, F, ok, fun J F1 H1 g1' gv D hD => ?_⟩
  have ok1 := ok.grow g1'
  refine ⟨fun i n H' => i ≤ zs.length ∧ n = zs.length - i ∧ ∃ F' acc, Grow F1 H1 F' H' ∧ F' D = none ∧ H' D = some (.lst acc) ∧ DqAll K F' acc (lc2V tb ws tb1 y (zs.take i)),
    ⟨zs.length, Nat.zero_le _, rfl, F1, [], Grow.own g1'.fh hD, g1'.fh.back hD, upd_same, .nil⟩, ?_⟩
  rintro i n H' ⟨hi, rfl, F', acc, g2, fd, hd, ha⟩
  by_cases hlt : i < zs.length
  · have hz : zs[i]? = some zs[i] := List.getElem?_eq_getElem hlt
    have hm : zs[i] ∈ zs := List.getElem_mem hlt
    refine .inr ⟨gv.go i F' H' (by rw [List.length_map]; exact hlt) g2.ff g2.fh, fun H2 => ∃ F2 acc, Grow F1 H1 F2 H2 ∧ F2 D = none ∧ H2 D = some (.lst acc) ∧ DqAll K F2 acc (lc2V tb ws tb1 y (zs.take (i + 1))), fun H2 ⟨F2, acc2, q1, q2, q3, q4⟩ => ⟨zs.length - (i + 1), by omega, hlt, rfl, F2, acc2, q1, q2, q3, q4⟩, fun x H3 hy => ?_⟩
    obtain ⟨F3, g3, x3⟩ := gv.yld i (enc zs[i]) F' H' x H3 (by rw [List.getElem?_map, hz]; rfl) g2.ff g2.fh hy
    have ok3 : Ok K F0 H0 (wipeE env own) (wipe σ own) F3 H3 := (ok1.grow (g2.trans g3)).wiped own
    refine hf zs[i] hm F0 H0 F3 H3 _ _ x _ ok3 x3 fun σ4 om4 w4 => ⟨?_, zs[i], hm, F0, H0, F3, om4 F3 H3 (Ex.refl _) ok3, fun F5 H5 g5 => ?_⟩
    · rw [w4 own hix]
      exact wipe_wipe own own fun _ h => h
    · have g35 := g3.trans g5
      have hD5 : F5 D = none := g35.old D fd (by rw [hd]; simp)
      have hH5 : H5 D = some (.lst acc) := g35.hh _ _ hd
      have hsucc := lc2V_succ (tb := tb) (ws := ws) (tb1 := tb1) (y := y) hz
      cases hb : tb zs[i] with
      | false =>
        refine ⟨F5, acc, g2.trans g35, hD5, hH5, ?_⟩
        rw [hsucc, if_neg (by rw [hb]; decide), List.append_nil]
        exact ha.up g35.ff
      | true =>
        rw [if_pos hb] at hsucc
        have ok5 := (om4 F3 H3 (Ex.refl _) ok3).grow g5
        show ∃ z, _
        refine ⟨zs[i], ⟨hm, hb⟩, F0, H0, F5, ok5, fun J1 F6 H6 g6 gv1 => ?_⟩
        have ok6 := ok5.grow g6
        have g26 := (g2.trans g35).trans g6
        refine ⟨fun j n H' => j ≤ (ws zs[i]).length ∧ n = (ws zs[i]).length - j ∧ ∃ F' acc', Grow F1 H1 F' H' ∧ Ex F6 F' ∧ F' D = none ∧ H' D = some (.lst acc') ∧ DqAll K F' acc' (lc2V tb ws tb1 y (zs.take i) ++ (((ws zs[i]).take j).filter (tb1 zs[i])).map (y zs[i])),
          ⟨(ws zs[i]).length, Nat.zero_le _, rfl, F6, acc, g26, Ex.refl _, g6.old D hD5 (by rw [hH5]; simp), g6.hh _ _ hH5, by
            show DqAll K F6 acc (_ ++ [])
            rw [List.append_nil]; exact ha.up (g35.ff.trans g6.ff)⟩, ?_⟩
        rintro j n H7 ⟨hj, rfl, F7, acc7, g7, x67, fd7, hd7, ha7⟩
        by_cases hjlt : j < (ws zs[i]).length
        · have hw : (ws zs[i])[j]? = some (ws zs[i])[j] := List.getElem?_eq_getElem hjlt
          have hwm : (ws zs[i])[j] ∈ ws zs[i] := List.getElem_mem hjlt
          refine .inr ⟨gv1.go j F7 H7 (by rw [List.length_map]; exact hjlt) x67 g7.fh, fun H2 => ∃ F2 acc', Grow F1 H1 F2 H2 ∧ Ex F6 F2 ∧ F2 D = none ∧ H2 D = some (.lst acc') ∧ DqAll K F2 acc' (lc2V tb ws tb1 y (zs.take i) ++ (((ws zs[i]).take (j + 1)).filter (tb1 zs[i])).map (y zs[i])), fun H2 ⟨F2, acc2, q⟩ => ⟨(ws zs[i]).length - (j + 1), by omega, hjlt, rfl, F2, acc2, q⟩, fun x H8 hy1 => ?_⟩
          obtain ⟨F8, g8, x8⟩ := gv1.yld j (encB (ws zs[i])[j]) F7 H7 x H8 (by rw [List.getElem?_map, hw]; rfl) x67 g7.fh hy1
          have ok8 : Ok K F0 H0 (wipeE (f zs[i] (wipeE env own)) vs1) (wipe σ4 vs1) F8 H8 := (om4 F8 H8 (((g5.ff.trans g6.ff).trans x67).trans g8.ff) ((ok1.grow (g7.trans g8)).wiped own)).wiped vs1
          refine hf1 zs[i] hm (ws zs[i])[j] hwm F0 H0 F8 H8 _ _ x _ ok8 x8 fun σ9 ok9 w9 => ⟨?_, zs[i], (ws zs[i])[j], ⟨hm, hwm⟩, F0, H0, F8, ok9, fun Fa Ha ga => ?_⟩
          · rw [w9 vs1 hix1]
            exact wipe_wipe vs1 vs1 fun _ h => h
          · have g8a := g8.trans ga
            have hDa : Fa D = none := g8a.old D fd7 (by rw [hd7]; simp)
            have hHa : Ha D = some (.lst acc7) := g8a.hh _ _ hd7
            have ht : ((ws zs[i]).take (j + 1)) = (ws zs[i]).take j ++ [(ws zs[i])[j]] := by rw [List.take_add_one, hw]; rfl
            cases hb1 : tb1 zs[i] (ws zs[i])[j] with
            | true =>
              show ∃ z w, _
              refine ⟨zs[i], (ws zs[i])[j], ⟨⟨hm, hwm⟩, hb1⟩, F0, H0, Fa, ok9.grow ga, fun v Fb Hb gb xb => ⟨acc7, gb.hh _ _ hHa, ?_, Fb, acc7 ++ [v], ?_, x67.trans (g8a.ff.trans gb.ff), gb.old D hDa (by rw [hHa]; simp), upd_same, ?_⟩⟩
              · have h1 := ha7.length
                have hle : (lc2V tb ws tb1 y (zs.take i) ++ (((ws zs[i]).take j).filter (tb1 zs[i])).map (y zs[i])).length ≤ (lc2V tb ws tb1 y zs).length := by
                  have hpre : (lc2V tb ws tb1 y (zs.take (i + 1))).length ≤ (lc2V tb ws tb1 y zs).length := by
                    have hs : zs = zs.take (i + 1) ++ zs.drop (i + 1) := (List.take_append_drop _ _).symm
                    have e2 : lc2V tb ws tb1 y zs = lc2V tb ws tb1 y (zs.take (i + 1)) ++ lc2V tb ws tb1 y (zs.drop (i + 1)) := by
                      conv => lhs; rw [hs]
                      unfold lc2V
                      rw [List.filter_append, List.flatMap_append]
                    rw [e2, List.length_append]; omega
                  refine Nat.le_trans ?_ hpre
                  rw [hsucc, List.length_append, List.length_append, List.length_map, List.length_map]
                  have : ((((ws zs[i]).take j).filter (tb1 zs[i]))).length ≤ (((ws zs[i])).filter (tb1 zs[i])).length := ((List.take_sublist j _).filter _).length_le
                  omega
                have h3 : sizeLine = 16777216 := sizeLine_eq
                omega
              · exact ((g7.trans g8a).trans gb).put hD (gb.old D hDa (by rw [hHa]; simp))
              · rw [ht, List.filter_append, List.map_append, List.filter_cons, if_pos hb1, ← List.append_assoc]
                exact (ha7.up ((g8a.ff.trans gb.ff))).append (.cons xb .nil)
            | false =>
              refine ⟨Fa, acc7, g7.trans g8a, x67.trans g8a.ff, hDa, hHa, ?_⟩
              rw [ht, List.filter_append, List.map_append, List.filter_cons, if_neg (by rw [hb1]; decide)]
              show DqAll K Fa acc7 (_ ++ (_ ++ []))
              rw [List.append_nil]
              exact ha7.up g8a.ff
        · have ej : j = (ws zs[i]).length := by omega
          subst ej
          refine .inl ⟨gv1.stop _ F7 H7 (by rw [List.length_map]; exact Nat.le_refl _) x67 g7.fh, F7, acc7, g7, fd7, hd7, ?_⟩
          rw [List.take_length] at ha7
          rw [hsucc]
          exact ha7
  · have e : i = zs.length := by omega
    subst e
    refine .inl ⟨gv.stop _ F' H' (by rw [List.length_map]; exact Nat.le_refl _) g2.ff g2.fh, k D acc F' H' (g1'.trans g2) (g1'.hh.back hD) fd hd ?_⟩
    rw [List.take_length] at ha
    exact ha
theorem o_lc2 {α β : Type} {zs : List α} {enc : α → PyData} {g : TG} {ix : List Nat} {f : α → List Sl → List Sl} {tb : α → Bool} {ws : α → List β} {encB : β → PyData} {g1 : TG} {ix1 : List Nat} {f1 : β → List Sl → List Sl} {tb1 : α → β → Bool} {y : α → β → PyData} {own : List (Str × Nat)} {vs1 : List Nat}
    (hN : X.N.Nodup) (hi : PI X tg iter (tI X.K env (zs.map enc))) (hT : (lc2V tb ws tb1 y zs).length ≤ 1000000) (okb : blkC X.N X.env.scope scope own = true) (hv : ∀ i ∈ vs1, i ∈ own.map (·.2)) (hg : Blk X scope fun X' => PG X' tg g) (hg1 : Blk X scope fun X' => PG X' tg1 g1)
    (hf : ∀ z ∈ zs, AsgM X.K g (enc z) (f z) ix) (hix : ∀ i ∈ ix, i ∈ own.map (·.2)) (hf1 : ∀ z ∈ zs, ∀ w ∈ ws z, Asg X.K g1 (encB w) (f1 w) ix1) (hix1 : ∀ i ∈ ix1, i ∈ vs1)
    (ht : ∀ z ∈ zs, Blk X scope fun X' => PTs X' ifs (tT X.K (f z (wipeE env (own.map (·.2)))) (tb z)))
    (hi1 : ∀ z ∈ zs, tb z = true → Blk X scope fun X' => PI X' tg1 iter1 (tI X.K (f z (wipeE env (own.map (·.2)))) ((ws z).map encB)))
    (ht1 : ∀ z ∈ zs, ∀ w ∈ ws z, Blk X scope fun X' => PTs X' ifs1 (tT X.K (f1 w (wipeE (f z (wipeE env (own.map (·.2)))) vs1)) (tb1 z w)))
    (he : ∀ z ∈ zs, ∀ w ∈ ws z, tb1 z w = true → Blk X scope fun X' => PE X' elt (tE X.K true (f1 w (wipeE (f z (wipeE env (own.map (·.2)))) vs1)) (y z w)))
    (hc : X.calm = true := by rfl) (hs : ∀ x, foldedSetIterable iter X.env x = pure x := by intro _; rfl) (hs1 : ∀ env x, foldedSetIterable iter1 env x = pure x := by intro _ _; rfl) : PE X (.ListComp elt [⟨tg, iter, ifs, 0⟩, ⟨tg1, iter1, ifs1, 0⟩] scope pos) (tO X.K env (lc2V tb ws tb1 y zs)) :=
  pmono (pe_lc2 (tt := fun σ H Q => ∃ z, (z ∈ zs) ∧ tT X.K (f z (wipeE env (own.map (·.2)))) (tb z) σ H Q)
    (wi1 := fun σ H R => ∃ z, (z ∈ zs ∧ tb z = true) ∧ tI X.K (f z (wipeE env (own.map (·.2)))) ((ws z).map encB) σ H R)
    (tt1 := fun σ H Q => ∃ z w, (z ∈ zs ∧ w ∈ ws z) ∧ tT X.K (f1 w (wipeE (f z (wipeE env (own.map (·.2)))) vs1)) (tb1 z w) σ H Q) (te := fun σ H Q => ∃ z w, ((z ∈ zs ∧ w ∈ ws z) ∧ tb1 z w = true) ∧ tE X.K true (f1 w (wipeE (f z (wipeE env (own.map (·.2)))) vs1)) (y z w) σ H Q) hc hN hi (blkOk_by okb) hv hg
    (fun s H C cl fp => ⟨fun pins s1 σ H Q I ⟨z, hz, q⟩ => (ht z hz s _ C cl fp).run pins s1 σ H Q I q⟩) (fun s H C cl fp => ⟨fun pins s1 σ H R I ⟨z, hz, q⟩ => (hi1 z hz.1 hz.2 s _ C cl fp).run pins s1 σ H R I q⟩) hg1
    (fun s H C cl fp => ⟨fun pins s1 σ H Q I ⟨z, w, hz, q⟩ => (ht1 z hz.1 w hz.2 s _ C cl fp).run pins s1 σ H Q I q⟩) (fun s H C cl fp => ⟨fun pins s1 σ H Q I ⟨z, w, hz, q⟩ => (he z hz.1.1 w hz.1.2 hz.2 s _ C cl fp).run pins s1 σ H Q I q⟩) hs hs1) fun σ H Q h => lc_read2 hT hf hix hf1 hix1 h
theorem lc2V_map {α β γ δ : Type} {tb : α → Bool} {ws : α → List β} {tb1 : α → β → Bool} {y : α → β → γ} {f : γ → δ} (zs : List α) : (lc2V tb ws tb1 y zs).map f = lc2V tb ws tb1 (fun z w => f (y z w)) zs := by
  unfold lc2V
  rw [List.map_flatMap]
  simp only [List.map_map]
  rfl
theorem o_lc2G {α β γ : Type} {encC : γ → PyData} {zs : List α} {enc : α → PyData} {g : TG} {ix : List Nat} {f : α → List Sl → List Sl} {tb : α → Bool} {ws : α → List β} {encB : β → PyData} {g1 : TG} {ix1 : List Nat} {f1 : β → List Sl → List Sl} {tb1 : α → β → Bool} {y : α → β → γ} {own : List (Str × Nat)} {vs1 : List Nat}
    (hN : X.N.Nodup) (hi : PI X tg iter (tI X.K env (zs.map enc))) (hT : (lc2V tb ws tb1 y zs).length ≤ 1000000) (okb : blkC X.N X.env.scope scope own = true) (hv : ∀ i ∈ vs1, i ∈ own.map (·.2)) (hg : Blk X scope fun X' => PG X' tg g) (hg1 : Blk X scope fun X' => PG X' tg1 g1)
    (hf : ∀ z ∈ zs, AsgM X.K g (enc z) (f z) ix) (hix : ∀ i ∈ ix, i ∈ own.map (·.2)) (hf1 : ∀ z ∈ zs, ∀ w ∈ ws z, Asg X.K g1 (encB w) (f1 w) ix1) (hix1 : ∀ i ∈ ix1, i ∈ vs1)
    (ht : ∀ z ∈ zs, Blk X scope fun X' => PTs X' ifs (tT X.K (f z (wipeE env (own.map (·.2)))) (tb z)))
    (hi1 : ∀ z ∈ zs, tb z = true → Blk X scope fun X' => PI X' tg1 iter1 (tI X.K (f z (wipeE env (own.map (·.2)))) ((ws z).map encB)))
    (ht1 : ∀ z ∈ zs, ∀ w ∈ ws z, Blk X scope fun X' => PTs X' ifs1 (tT X.K (f1 w (wipeE (f z (wipeE env (own.map (·.2)))) vs1)) (tb1 z w)))
    (he : ∀ z ∈ zs, ∀ w ∈ ws z, tb1 z w = true → Blk X scope fun X' => PE X' elt (tE X.K true (f1 w (wipeE (f z (wipeE env (own.map (·.2)))) vs1)) (encC (y z w))))
    (hc : X.calm = true := by rfl) (hs : ∀ x, foldedSetIterable iter X.env x = pure x := by intro _; rfl) (hs1 : ∀ env x, foldedSetIterable iter1 env x = pure x := by intro _ _; rfl) : PE X (.ListComp elt [⟨tg, iter, ifs, 0⟩, ⟨tg1, iter1, ifs1, 0⟩] scope pos) (tO X.K env ((lc2V tb ws tb1 y zs).map encC)) := by
  rw [lc2V_map]
  exact o_lc2 (y := fun z w => encC (y z w)) hN hi (by rw [← lc2V_map (f := encC), List.length_map]; exact hT) okb hv hg hg1 hf hix hf1 hix1 ht hi1 ht1 he hc hs hs1
end
/-! ### laws as data: exact ones, sized ones -/
inductive Lw where
  | ex (ts : List (Int × Int × Int)) (src : Str)
  | sz (k j : Int) (ts : List (Str × Int × Int)) (src : Str)
  deriving DecidableEq, Inhabited
def eLw : Lw → PyData
  | .ex ts src => .tuple [.str "exact", eL (eT3 PyData.int PyData.int PyData.int) ts, .str src]
  | .sz k j ts src => .tuple [.str "sized", .int k, .int j, eL (eT3 PyData.str PyData.int PyData.int) ts, .str src]
def Lw.kind : Lw → Str
  | .ex _ _ => "exact"
  | .sz _ _ _ _ => "sized"
def Lw.src : Lw → Str
  | .ex _ s => s
  | .sz _ _ _ s => s
def Lw.ets : Lw → List (Int × Int × Int)
  | .ex ts _ => ts
  | .sz _ _ _ _ => []
def Lw.sts : Lw → List (Str × Int × Int)
  | .ex _ _ => []
  | .sz _ _ ts _ => ts
theorem lw_kind (z : Lw) : ∃ ds, eLw z = .tuple ds ∧ L2.atI ds 0 = some (.str z.kind) := by cases z <;> exact ⟨_, rfl, rfl⟩
theorem lw_src (z : Lw) : ∃ ds, eLw z = .tuple ds ∧ L2.atI ds (-1) = some (.str z.src) := by cases z <;> exact ⟨_, rfl, rfl⟩
theorem ex_ne_sz : ("exact" : Str) ≠ "sized" := by decide
theorem lw_sz {z : Lw} (h : z.kind = "sized") : ∃ k j ts src, z = .sz k j ts src := by
  cases z with
  | ex ts src => exact absurd h ex_ne_sz
  | sz k j ts src => exact ⟨k, j, ts, src, rfl⟩
theorem lw_ex {z : Lw} (h : z.kind = "exact") : ∃ ts src, z = .ex ts src := by
  cases z with
  | ex ts src => exact ⟨ts, src, rfl⟩
  | sz k j ts src => exact absurd h.symm ex_ne_sz
theorem lw_ets {z : Lw} (h : z.kind = "exact") : ∃ ds, eLw z = .tuple ds ∧ L2.atI ds 1 = some (eL (eT3 PyData.int PyData.int PyData.int) z.ets) := by
  obtain ⟨ts, src, rfl⟩ := lw_ex h
  exact ⟨_, rfl, rfl⟩
theorem lw_sts {z : Lw} (h : z.kind = "sized") : ∃ ds, eLw z = .tuple ds ∧ L2.atI ds 3 = some (eL (eT3 PyData.str PyData.int PyData.int) z.sts) := by
  obtain ⟨k, j, ts, src, rfl⟩ := lw_sz h
  exact ⟨_, rfl, rfl⟩
theorem kind_cases (z : Lw) : z.kind = "exact" ∨ z.kind = "sized" := by cases z <;> first | exact .inl rfl | exact .inr rfl
theorem eqLw : EqOk eLw := ⟨fun x y => by
  have e3 := (eqL (eqT3 eqI eqI eqI)).eq
  have s3 := (eqL (eqT3 eqS eqI eqI)).eq
  have es := eqS.eq
  have ei := eqI.eq
  cases x with
  | ex ts src =>
    cases y with
    | ex ts' src' =>
      show PyData.eqv (.tuple [.str "exact", _, .str src]) (.tuple [.str "exact", _, .str src']) = _
      have a3 := eqv_all (eqT3 eqI eqI eqI) ts ts'
      simp only [PyData.eqv, PyData.eqvAll, eL, a3, Bool.and_true]
      by_cases h : ts = ts' <;> by_cases h2 : src = src' <;> simp [h, h2]
    | sz k j ts' src' =>
      show PyData.eqv (.tuple [.str "exact", _, .str src]) (.tuple [.str "sized", .int k, .int j, _, .str src']) = _
      simp [PyData.eqv, PyData.eqvAll]
  | sz k j ts src =>
    cases y with
    | ex ts' src' =>
      show PyData.eqv (.tuple [.str "sized", .int k, .int j, _, .str src]) (.tuple [.str "exact", _, .str src']) = _
      simp [PyData.eqv, PyData.eqvAll]
    | sz k' j' ts' src' =>
      show PyData.eqv (.tuple [.str "sized", .int k, .int j, _, .str src]) (.tuple [.str "sized", .int k', .int j', _, .str src']) = _
      have a3 := eqv_all (eqT3 eqS eqI eqI) ts ts'
      simp only [PyData.eqv, PyData.eqvAll, eL, a3, Bool.and_true]
      by_cases h : ts = ts' <;> by_cases h2 : src = src' <;> by_cases h3 : k = k' <;> by_cases h4 : j = j' <;> simp [h, h2, h3, h4]⟩
theorem eqO {α : Type} [DecidableEq α] {enc : α → PyData} (h : EqOk enc) (hn : ∀ z, PyData.eqv (enc z) .none = false ∧ PyData.eqv .none (enc z) = false) : EqOk (eO enc) := ⟨fun x y => by
  cases x with
  | none => cases y with
    | none => simp [eO, PyData.eqv]
    | some y => show PyData.eqv .none (enc y) = _; rw [(hn y).2]; simp
  | some x => cases y with
    | none => show PyData.eqv (enc x) .none = _; rw [(hn x).1]; simp
    | some y => show PyData.eqv (enc x) (enc y) = _; rw [h.eq]; simp⟩
theorem shO {α : Type} {enc : α → PyData} {n : Nat} (h : ShOk enc n) : ShOk (eO enc) n := ⟨fun x => by
  cases x with
  | none => simp [eO, PyData.canLay0, PyData.depth]
  | some x => exact h.sh x⟩
section
variable {X : Cx} {a b : Expr} {env : List Sl} {d d' : PyData} {pos : Pos} {i : Int} {m : Bool}
/-- an item of a tuple, told by a proof -/
theorem e_ixTE (h : PE X a (tE X.K true env d)) (hb : PE X b (tE X.K true env (.int i))) (hd : ∃ ds, d = .tuple ds ∧ L2.atI ds i = some d') (hs : PlainIx b := by exact fun _ _ => rfl) : PE X (.Subscript a b pos) (tE X.K m env d') := by
  obtain ⟨ds, rfl, h2⟩ := hd
  exact e_ixT h hb h2 hs
theorem s_popG {α : Type} {enc : α → PyData} {zs : List α} {E : DE} {p1 p2 p3 : Pos} {xn : Str} (k : Nat) (hi : X.N[k]? = some xn) (hv : Vis X.env.scope xn) (ho : env[k]? = some (.own (zs.map enc))) (hne : 0 < zs.length) (h : E.nx (env.set k (.own (zs.dropLast.map enc))))
    (hd : (xn == ("__debug__" : Str)) = false := by decide) (hcd : (xn == ("__classdict__" : Str)) = false := by decide)
    (hbase : attributeBase (.Name xn p1) "pop" X.env (eval (.Name xn p1) X.env) = eval (.Name xn p1) X.env := by rfl) (hline : (p2.endLine == p3.line) = true := by rfl)
    (hs : swapsWith (.Call (.Attribute (.Name xn p1) "pop" p2) [] [] p3) none pos.line X.env = pure false := by rfl) : PS X (.Expr (.Call (.Attribute (.Name xn p1) "pop" p2) [] [] p3) pos) (tS X.K env E) :=
  s_popD k hi hv ho (by rw [List.length_map]; exact hne) (by rw [List.map_dropLast] at h; exact h) hd hcd hbase hline hs
end
end D3
namespace W3
open PySem PySem.Spec PyProof.Rows L2 D3
structure Tc (K : KF) (mg : Str → Option Value) : Prop where
  MOST_ORDER : ∃ t, mg "MOST_ORDER" = some (.int 3 t)
abbrev St := L2.St
def topS (i : Nat) : Stmt := PySem.Challenge.pw_unsaidsizes_k06_tables_of_a_model.main.body.getD i (.Pass ⟨0, 0, 0, 0⟩)

/-! ### the mathematics -/
def isP (xs : List Int) : Bool := decide ((xs.length : Int) = 0) || !decide (xs.getLastD 0 = 0)
/-- the zeros at the end -/
def nz (xs : List Int) : Nat := (xs.reverse.takeWhile fun x => decide (x = 0)).length
def trim (xs : List Int) : List Int := xs.take (xs.length - nz xs)
theorem nz_le (xs : List Int) : nz xs ≤ xs.length := by
  unfold nz
  have h := (List.takeWhile_sublist (fun x : Int => decide (x = 0)) (l := xs.reverse)).length_le
  rw [List.length_reverse] at h
  exact h
theorem tw_at {α : Type} (p : α → Bool) : ∀ (l : List α) (i : Nat), i ≤ (l.takeWhile p).length → (i < (l.takeWhile p).length ↔ ∃ x, l[i]? = some x ∧ p x = true)
  | [], i, h => by simp
  | a :: l, i, h => by
    by_cases ha : p a = true
    · rw [List.takeWhile_cons_of_pos ha] at h ⊢
      cases i with
      | zero => simp [ha]
      | succ i =>
        have := tw_at p l i (by simpa using h)
        simpa using this
    · rw [List.takeWhile_cons_of_neg ha] at h ⊢
      have h0 : i = 0 := by simpa using h
      subst h0
      simp [ha]
theorem nz_test (xs : List Int) (i : Nat) (h : i ≤ nz xs) : (decide ((0 : Int) < ((xs.length - i : Nat) : Int)) && decide (xs.getD (((xs.length - i : Nat) : Int) - 1).toNat 0 = 0)) = decide (i < nz xs) := by
  have hn := nz_le xs
  have ht := tw_at (fun x : Int => decide (x = 0)) xs.reverse i h
  by_cases hi : i < xs.length
  · have e1 : (((xs.length - i : Nat) : Int) - 1).toNat = xs.length - 1 - i := by omega
    rw [e1]
    have e2 : xs.reverse[i]? = some (xs.getD (xs.length - 1 - i) 0) := by
      rw [List.getElem?_reverse hi, List.getD_eq_getElem?_getD, List.getElem?_eq_getElem (by omega)]
      rfl
    have e3 : decide ((0 : Int) < ((xs.length - i : Nat) : Int)) = true := decide_eq_true (by omega)
    rw [e3, Bool.true_and]
    have : (i < nz xs) ↔ xs.getD (xs.length - 1 - i) 0 = 0 := by
      unfold nz
      rw [ht, e2]
      simp
    simp only [this]
  · have e3 : decide ((0 : Int) < ((xs.length - i : Nat) : Int)) = false := decide_eq_false (by omega)
    rw [e3, Bool.false_and]
    exact (decide_eq_false (by omega)).symm
def val (xs : List Int) (a : Int) : Int := xs.reverse.foldl (fun t n => t * a + n) 0
def pl1 (xs : List Int) : Nat → List Int → List Int := fun k t => t.set k (xs.getD k 0)
def pl2 (ys : List Int) : Nat → List Int → List Int := fun k t => t.set k (t.getD k 0 + ys.getD k 0)
def mx (xs ys : List Int) : Nat := max xs.length ys.length
def plA (xs ys : List Int) : List Int := iter (pl1 xs) (List.replicate (mx xs ys) 0) xs.length
def plus (xs ys : List Int) : List Int := trim (iter (pl2 ys) (plA xs ys) ys.length)
theorem pl1_len (xs s : List Int) : ∀ n, (iter (pl1 xs) s n).length = s.length
  | 0 => rfl
  | n + 1 => by rw [iter_succ, pl1, List.length_set, pl1_len]
theorem pl2_len (xs s : List Int) : ∀ n, (iter (pl2 xs) s n).length = s.length
  | 0 => rfl
  | n + 1 => by rw [iter_succ, pl2, List.length_set, pl2_len]
def ti (xs ys : List Int) (k : Nat) : Nat → List Int → List Int := fun m t => t.set (k + m) (t.getD (k + m) 0 + xs.getD k 0 * ys.getD m 0)
def to (xs ys : List Int) : Nat → List Int → List Int := fun k t => iter (ti xs ys k) t ys.length
def times (xs ys : List Int) : List Int := if xs.length = 0 ∨ ys.length = 0 then [] else iter (to xs ys) (List.replicate (xs.length + ys.length - 1) 0) xs.length
theorem ti_len (xs ys s : List Int) (k : Nat) : ∀ n, (iter (ti xs ys k) s n).length = s.length
  | 0 => rfl
  | n + 1 => by rw [iter_succ, ti, List.length_set, ti_len]
theorem to_len (xs ys s : List Int) : ∀ n, (iter (to xs ys) s n).length = s.length
  | 0 => rfl
  | n + 1 => by rw [iter_succ, to, ti_len, to_len]
def scaled (xs : List Int) (n : Int) : List Int := if n = 0 then [] else xs.map fun x => n * x
def raised (xs : List Int) (k : Int) : List Int := if xs.length = 0 then [] else List.replicate k.toNat 0 ++ xs
def Sml (xs : List Int) : Prop := ∀ x ∈ xs, Sm 2000 x
theorem Sml.get {xs : List Int} (h : Sml xs) (k : Nat) : Sm 2000 (xs.getD k 0) := by
  rw [List.getD_eq_getElem?_getD]
  cases e : xs[k]? with
  | none => show Sm 2000 0; unfold Sm; exact Nat.two_pow_pos _
  | some x => exact h x (List.mem_of_getElem? e)

/-! the law's own defs -/
def absI (x : Int) : Int := if x < 0 then -x else x
def dg : Nat → List Int × Int → List Int × Int := fun _ s => if 0 < s.2 then (s.1 ++ [s.2 % 65536], s.2 / 65536) else s
def mixA (r : Int) (k : Nat) : Int := ((r * 48271 + ((k : Int) + 1) * 69621) % 2147483647 * 16807 + 11 * (k : Int) + 5) % 2147483629
def dstep (ns : List Int) : Nat → List Int → List Int := fun k ds =>
  if 10 ^ (18 : Int).toNat ≤ absI (ns.getD k 0) then (iter dg (ds, absI (ns.getD k 0)) 60).1
  else ds ++ [mixA (absI (ns.getD k 0)) k % 65536] ++ [mixA (absI (ns.getD k 0)) k / 65536 % 32768]
def draws (ns : List Int) : List Int := iter (dstep ns) [] (if (ns.length : Int) < 63 then (ns.length : Int) else 63).toNat
theorem dg_len (s : List Int × Int) : ∀ n, (iter dg s n).1.length ≤ s.1.length + n
  | 0 => Nat.le_refl _
  | n + 1 => by
    have ih := dg_len s n
    rw [iter_succ, dg]
    split
    · rw [List.length_append]; simp; omega
    · omega
theorem ds_len (ns : List Int) : ∀ n, (iter (dstep ns) [] n).length ≤ 60 * n
  | 0 => Nat.le_refl _
  | n + 1 => by
    have ih := ds_len ns n
    rw [iter_succ, dstep]
    split
    · have := dg_len (iter (dstep ns) [] n, absI (ns.getD n 0)) 60
      simp only at this
      omega
    · simp only [List.length_append, List.length_cons, List.length_nil]; omega
def lawAt (ds : List Int) (k m : Int) : Int := if k < ds.length then ds.getD k.toNat 0 % m else 0
theorem lawAt_bd (ds : List Int) (k m : Int) (h : 0 < m) : 0 ≤ lawAt ds k m ∧ lawAt ds k m < m := by
  unfold lawAt
  split
  · exact ⟨Int.emod_nonneg _ (by omega), Int.emod_lt_of_pos _ h⟩
  · omega
def num (ds : List Int) (k : Int) : Int :=
  if lawAt ds k 8 < 3 then lawAt ds (k + 1) 65536 / 2 % 4 - 1
  else if lawAt ds k 8 < 6 then lawAt ds (k + 1) 65536 / 2 % 2001 - 1000
  else if lawAt ds k 8 = 6 then (1 - 2 * (lawAt ds (k + 1) 65536 % 2)) * 10 ^ (30 : Int).toNat
  else (1 - 2 * (lawAt ds (k + 1) 65536 % 2)) * ((lawAt ds (k + 1) 65536 * 65537 + 12345) ^ (6 : Int).toNat % 10 ^ (30 : Int).toNat)
def lst (ns : List Int) : Nat → Int → Int := fun m l => if ns.getD m 0 = 0 then l else (m : Int) + 1
theorem lst_bd (ns : List Int) : ∀ n, 0 ≤ iter (lst ns) 0 n ∧ iter (lst ns) 0 n ≤ n
  | 0 => ⟨Int.le_refl _, Int.le_refl _⟩
  | n + 1 => by
    have ih := lst_bd ns n
    rw [iter_succ, lst]
    split <;> omega
/-- up to the last that is not 0 -/
def upto (ns : List Int) : List Int := ns.take (iter (lst ns) 0 ns.length).toNat
def polyN (ds : List Int) (k w : Int) : List Int := (List.range (lawAt ds k (w + 2)).toNat).map fun (m : Nat) => num ds (k + 1 + 2 * (m : Int))
def poly (ds : List Int) (k w : Int) : List Int := upto (polyN ds k w)
def zer (n : Int) : List Int := (List.range n.toNat).map fun _ => (0 : Int)
def lpA (xs ys : List Int) : List Int := iter (pl2 xs) (zer (max xs.length ys.length : Nat)) xs.length
def lpB (xs ys : List Int) : List Int := iter (pl2 ys) (lpA xs ys) ys.length
def lplus (xs ys : List Int) : List Int := upto (lpB xs ys)
theorem zer_len (n : Int) : (zer n).length = n.toNat := by simp [zer]
theorem lpB_len (xs ys : List Int) : (lpB xs ys).length = max xs.length ys.length := by
  unfold lpB lpA
  rw [pl2_len, pl2_len, zer_len]
  rfl
def ltI (xs ys : List Int) (k : Nat) : List Int := zer k ++ (if !decide (xs.getD k 0 = 0) then ys.map fun y => xs.getD k 0 * y else [])
def lt_ (xs ys : List Int) : Nat → List Int → List Int := fun k t => lplus t (ltI xs ys k)
def ltimes (xs ys : List Int) : List Int := iter (lt_ xs ys) [] xs.length
theorem ltI_len (xs ys : List Int) (k : Nat) : (ltI xs ys k).length ≤ k + ys.length := by
  unfold ltI
  rw [List.length_append, zer_len]
  split <;> simp
theorem upto_len (xs : List Int) : (upto xs).length ≤ xs.length := by
  unfold upto
  rw [List.length_take]
  omega
theorem lt_len (xs ys : List Int) : ∀ n, (iter (lt_ xs ys) [] n).length ≤ n + ys.length
  | 0 => by simp [iter]
  | n + 1 => by
    have ih := lt_len xs ys n
    have h1 := ltI_len xs ys n
    rw [iter_succ, lt_, lplus]
    have h2 := upto_len (lpB (iter (lt_ xs ys) [] n) (ltI xs ys n))
    rw [lpB_len] at h2
    omega
def lv (u : Int) : Int × Int → Int → Int × Int := fun s n => (s.1 + n * s.2, s.2 * u)
def lvalue (xs : List Int) (u : Int) : Int := (xs.foldl (lv u) (0, 1)).1
theorem lv_pow (u : Int) (hu : -1024 < u ∧ u < 1024) (xs : List Int) : ∀ i, i ≤ xs.length → Sm (10 * i + 1) (itl (lv u) (0, 1) xs i).2
  | 0, _ => by show Sm 1 1; unfold Sm; decide
  | i + 1, h => by
    have ih := lv_pow u hu xs i (by omega)
    rw [itl_succ (List.getElem?_eq_getElem (show i < xs.length by omega))]
    show Sm (10 * (i + 1) + 1) ((itl (lv u) (0, 1) xs i).2 * u)
    have hs : Sm 10 u := Sm.of (b := 1024) hu (by decide)
    exact (ih.mul hs).up (by omega)
def drawn (ds : List Int) (f : Int) : List Int :=
  if lawAt ds f 16 = 9 then ((List.range 40).map fun (k : Nat) => ((1 + lawAt ds (f + 1) 999) * (k : Int) * (k : Int) + (k : Int) / 3) % 2001 - 1000) ++ [1 - 2 * lawAt ds (f + 2) 2]
  else poly ds (f + 1) 5
/-! ### the law's mathematics -/
theorem g_nil (k : Nat) : ([] : List Int).getD k 0 = 0 := by simp
theorem g_out {xs : List Int} {k : Nat} (h : xs.length ≤ k) : xs.getD k 0 = 0 := by
  rw [List.getD_eq_getElem?_getD, List.getElem?_eq_none h]; rfl
theorem g_take (xs : List Int) (n k : Nat) : (xs.take n).getD k 0 = if k < n then xs.getD k 0 else 0 := by
  rw [List.getD_eq_getElem?_getD, List.getD_eq_getElem?_getD, List.getElem?_take]
  split <;> simp
theorem g_set (xs : List Int) (n k : Nat) (v : Int) : (xs.set n v).getD k 0 = if n = k ∧ n < xs.length then v else xs.getD k 0 := by
  rw [List.getD_eq_getElem?_getD, List.getD_eq_getElem?_getD, List.getElem?_set]
  by_cases h : n = k
  · subst h
    by_cases h2 : n < xs.length
    · simp [h2]
    · simp [h2, List.getElem?_eq_none (show xs.length ≤ n by omega)]
  · simp [h]
theorem g_rep (n k : Nat) : (List.replicate n (0 : Int)).getD k 0 = 0 := by
  rw [List.getD_eq_getElem?_getD, List.getElem?_replicate]
  split <;> rfl
theorem g_app (xs ys : List Int) (k : Nat) : (xs ++ ys).getD k 0 = if k < xs.length then xs.getD k 0 else ys.getD (k - xs.length) 0 := by
  rw [List.getD_eq_getElem?_getD, List.getD_eq_getElem?_getD, List.getD_eq_getElem?_getD, List.getElem?_append]
  split <;> rfl
theorem g_map (xs : List Int) (f : Int → Int) (h : f 0 = 0) (k : Nat) : (xs.map f).getD k 0 = f (xs.getD k 0) := by
  rw [List.getD_eq_getElem?_getD, List.getD_eq_getElem?_getD, List.getElem?_map]
  cases xs[k]? with
  | none => exact h.symm
  | some x => rfl
theorem zer_rep (n : Int) : zer n = List.replicate n.toNat 0 := by
  unfold zer
  rw [List.map_const', List.length_range]
theorem last_g (xs : List Int) : xs.getLastD 0 = xs.getD (xs.length - 1) 0 := by
  cases xs with
  | nil => rfl
  | cons a r =>
    rw [List.getLastD_cons, List.getD_eq_getElem?_getD, ← List.getLast?_eq_getElem?, List.getLast?_cons]
    cases r <;> simp
theorem isP_iff (xs : List Int) : isP xs = true ↔ xs = [] ∨ xs.getD (xs.length - 1) 0 ≠ 0 := by
  unfold isP
  rw [last_g, Bool.or_eq_true, decide_eq_true_eq, Bool.not_eq_true', decide_eq_false_iff_not]
  constructor
  · rintro (h | h)
    · exact .inl (List.length_eq_zero_iff.mp (by omega))
    · exact .inr h
  · rintro (h | h)
    · subst h; exact .inl rfl
    · exact .inr h
theorem isP_len {a b : List Int} (ha : isP a = true) (h : ∀ k, a.getD k 0 = b.getD k 0) : a.length ≤ b.length := by
  rcases (isP_iff a).mp ha with e | e
  · subst e; simp
  · by_cases hl : a.length ≤ b.length
    · exact hl
    · exact absurd ((h (a.length - 1)).trans (g_out (by omega))) e
theorem ext_g {a b : List Int} (hl : a.length = b.length) (h : ∀ k, a.getD k 0 = b.getD k 0) : a = b := by
  apply List.ext_getElem hl
  intro n h1 h2
  have := h n
  rw [List.getD_eq_getElem?_getD, List.getD_eq_getElem?_getD, List.getElem?_eq_getElem h1, List.getElem?_eq_getElem h2] at this
  exact this
/-- two polynomials with the same numbers are one -/
theorem uniq {a b : List Int} (ha : isP a = true) (hb : isP b = true) (h : ∀ k, a.getD k 0 = b.getD k 0) : a = b :=
  ext_g (Nat.le_antisymm (isP_len ha h) (isP_len hb fun k => (h k).symm)) h
theorem nz_zero (xs : List Int) (k : Nat) (h1 : xs.length - nz xs ≤ k) : xs.getD k 0 = 0 := by
  by_cases hk : k < xs.length
  · have hn := nz_le xs
    have ht := nz_test xs (xs.length - 1 - k) (by omega)
    rw [decide_eq_true (show xs.length - 1 - k < nz xs by omega), Bool.and_eq_true, decide_eq_true_eq, decide_eq_true_eq] at ht
    have e : (((xs.length - (xs.length - 1 - k) : Nat) : Int) - 1).toNat = k := by omega
    rw [e] at ht
    exact ht.2
  · exact g_out (by omega)
theorem trim_g (xs : List Int) (k : Nat) : (trim xs).getD k 0 = xs.getD k 0 := by
  unfold trim
  rw [g_take]
  split
  · rfl
  · exact (nz_zero xs k (by omega)).symm
theorem trim_P (xs : List Int) : isP (trim xs) = true := by
  rw [isP_iff]
  have hn := nz_le xs
  have hl : (trim xs).length = xs.length - nz xs := by unfold trim; rw [List.length_take]; omega
  by_cases h0 : xs.length - nz xs = 0
  · exact .inl (List.length_eq_zero_iff.mp (by omega))
  · right
    rw [trim_g, hl]
    have ht := nz_test xs (nz xs) (Nat.le_refl _)
    rw [decide_eq_false (Nat.lt_irrefl (nz xs)), decide_eq_true (show (0 : Int) < ((xs.length - nz xs : Nat) : Int) by omega), Bool.true_and, decide_eq_false_iff_not] at ht
    have e : (((xs.length - nz xs : Nat) : Int) - 1).toNat = xs.length - nz xs - 1 := by omega
    rw [e] at ht
    exact ht
theorem lst_zero (t : List Int) : ∀ n k, (iter (lst t) 0 n).toNat ≤ k → k < n → t.getD k 0 = 0
  | 0, k, _, h => absurd h (Nat.not_lt_zero _)
  | n + 1, k, h1, h2 => by
    rw [iter_succ, lst] at h1
    split at h1
    · rename_i h0
      by_cases hk : k = n
      · subst hk; exact h0
      · exact lst_zero t n k h1 (by omega)
    · omega
theorem lst_last (t : List Int) : ∀ n, iter (lst t) 0 n = 0 ∨ t.getD ((iter (lst t) 0 n).toNat - 1) 0 ≠ 0
  | 0 => .inl rfl
  | n + 1 => by
    rw [iter_succ, lst]
    split
    · exact lst_last t n
    · rename_i h
      right
      have e : ((n : Int) + 1).toNat - 1 = n := by omega
      rw [e]; exact h
theorem upto_g (t : List Int) (k : Nat) : (upto t).getD k 0 = t.getD k 0 := by
  unfold upto
  rw [g_take]
  split
  · rfl
  · by_cases hk : k < t.length
    · exact (lst_zero t _ k (by omega) hk).symm
    · exact (g_out (by omega)).symm
theorem upto_P (t : List Int) : isP (upto t) = true := by
  rw [isP_iff]
  have hb := lst_bd t t.length
  have hl : (upto t).length = (iter (lst t) 0 t.length).toNat := by unfold upto; rw [List.length_take]; omega
  rcases lst_last t t.length with h | h
  · exact .inl (List.length_eq_zero_iff.mp (by omega))
  · right
    rw [upto_g, hl]
    exact h
theorem pl2_g (ys s : List Int) (k : Nat) : ∀ n, (iter (pl2 ys) s n).getD k 0 = s.getD k 0 + if k < n ∧ k < s.length then ys.getD k 0 else 0
  | 0 => by simp [iter]
  | n + 1 => by
    rw [iter_succ, pl2, g_set, pl2_len, pl2_g ys s k n]
    by_cases h : n = k
    · subst h
      by_cases h2 : n < s.length
      · rw [if_pos ⟨rfl, h2⟩, pl2_g ys s n n, if_neg (by omega), if_pos ⟨by omega, h2⟩]; omega
      · rw [if_neg (by omega), if_neg (by omega), if_neg (by omega)]
    · rw [if_neg (by omega)]
      congr 1
      by_cases h3 : k < n ∧ k < s.length
      · rw [if_pos h3, if_pos ⟨by omega, h3.2⟩]
      · rw [if_neg h3, if_neg (by omega)]
theorem pl1_g (xs s : List Int) (k : Nat) : ∀ n, (iter (pl1 xs) s n).getD k 0 = if k < n ∧ k < s.length then xs.getD k 0 else s.getD k 0
  | 0 => by simp [iter]
  | n + 1 => by
    rw [iter_succ, pl1, g_set, pl1_len, pl1_g xs s k n]
    by_cases h : n = k
    · subst h
      by_cases h2 : n < s.length
      · rw [if_pos ⟨rfl, h2⟩, if_pos ⟨by omega, h2⟩]
      · rw [if_neg (by omega), if_neg (by omega), if_neg (by omega)]
    · rw [if_neg (by omega)]
      by_cases h3 : k < n ∧ k < s.length
      · rw [if_pos h3, if_pos ⟨by omega, h3.2⟩]
      · rw [if_neg h3, if_neg (by omega)]
theorem plA_g (xs ys : List Int) (k : Nat) : (plA xs ys).getD k 0 = xs.getD k 0 := by
  unfold plA
  rw [pl1_g, g_rep]
  by_cases h : k < xs.length
  · rw [if_pos ⟨h, by rw [List.length_replicate]; unfold mx; omega⟩]
  · rw [if_neg (by omega), g_out (by omega)]
theorem plus_g (xs ys : List Int) (k : Nat) : (plus xs ys).getD k 0 = xs.getD k 0 + ys.getD k 0 := by
  unfold plus
  rw [trim_g, pl2_g, plA_g]
  congr 1
  have hl : (plA xs ys).length = max xs.length ys.length := by unfold plA; rw [pl1_len, List.length_replicate]; rfl
  by_cases h : k < ys.length
  · rw [if_pos ⟨h, by omega⟩]
  · rw [if_neg (by omega), g_out (by omega)]
theorem plus_P (xs ys : List Int) : isP (plus xs ys) = true := trim_P _
theorem lplus_g (xs ys : List Int) (k : Nat) : (lplus xs ys).getD k 0 = xs.getD k 0 + ys.getD k 0 := by
  unfold lplus
  rw [upto_g]
  unfold lpB lpA
  rw [pl2_g, pl2_g, pl2_len, zer_rep, g_rep, List.length_replicate]
  have e : ((max xs.length ys.length : Nat) : Int).toNat = max xs.length ys.length := rfl
  rw [e, Int.zero_add]
  congr 1
  · by_cases h : k < xs.length
    · rw [if_pos ⟨h, by omega⟩]
    · rw [if_neg (by omega), g_out (by omega)]
  · by_cases h : k < ys.length
    · rw [if_pos ⟨h, by omega⟩]
    · rw [if_neg (by omega), g_out (by omega)]
theorem lplus_P (xs ys : List Int) : isP (lplus xs ys) = true := upto_P _
theorem lplus_eq (xs ys : List Int) : plus xs ys = lplus xs ys := uniq (plus_P _ _) (lplus_P _ _) fun k => by rw [plus_g, lplus_g]
/-- the numbers of a product -/
def cf (xs ys : List Int) (k : Nat) : Nat → Int
  | 0 => 0
  | n + 1 => cf xs ys k n + if n ≤ k then xs.getD n 0 * ys.getD (k - n) 0 else 0
theorem ti_g (xs ys s : List Int) (i k : Nat) (hs : i + ys.length ≤ s.length) : ∀ n, n ≤ ys.length → (iter (ti xs ys i) s n).getD k 0 = s.getD k 0 + if i ≤ k ∧ k < i + n then xs.getD i 0 * ys.getD (k - i) 0 else 0
  | 0, _ => by
    rw [if_neg (by omega)]
    exact (Int.add_zero _).symm
  | n + 1, hn => by
    rw [iter_succ, ti, g_set, ti_len]
    by_cases h : i + n = k
    · rw [if_pos ⟨h, by omega⟩, h, ti_g xs ys s i k hs n (by omega), if_neg (by omega), if_pos (by omega)]
      have e : k - i = n := by omega
      rw [e]; omega
    · rw [if_neg (by omega), ti_g xs ys s i k hs n (by omega)]
      congr 1
      by_cases h3 : i ≤ k ∧ k < i + n
      · rw [if_pos h3, if_pos (by omega)]
      · rw [if_neg h3, if_neg (by omega)]
theorem to_g (xs ys s : List Int) (k : Nat) (hs : s.length = xs.length + ys.length - 1) (hy : 0 < ys.length) (h0 : s.getD k 0 = 0) : ∀ n, n ≤ xs.length → (iter (to xs ys) s n).getD k 0 = cf xs ys k n
  | 0, _ => h0
  | n + 1, hn => by
    rw [iter_succ, to, ti_g xs ys _ n k (by rw [to_len]; omega) _ (Nat.le_refl _), to_g xs ys s k hs hy h0 n (by omega), cf]
    congr 1
    by_cases h : n ≤ k ∧ k < n + ys.length
    · rw [if_pos h, if_pos h.1]
    · rw [if_neg h]
      by_cases h2 : n ≤ k
      · rw [if_pos h2, g_out (show ys.length ≤ k - n by omega), Int.mul_zero]
      · rw [if_neg h2]
theorem times_g (xs ys : List Int) (k : Nat) : (times xs ys).getD k 0 = cf xs ys k xs.length := by
  unfold times
  split
  · rename_i h
    rw [g_nil]
    rcases h with h | h
    · rw [h]; rfl
    · have : ∀ n, cf xs ys k n = 0 := by
        intro n
        induction n with
        | zero => rfl
        | succ n ih =>
          rw [cf, ih, g_out (show ys.length ≤ k - n by omega), Int.mul_zero]
          split <;> rfl
      rw [this]
  · rename_i h
    exact to_g xs ys _ k (by rw [List.length_replicate]) (by omega) (g_rep _ _) _ (Nat.le_refl _)
theorem times_P (xs ys : List Int) (hx : isP xs = true) (hy : isP ys = true) : isP (times xs ys) = true := by
  by_cases h : xs.length = 0 ∨ ys.length = 0
  · unfold times; rw [if_pos h]; rfl
  · rw [isP_iff]
    right
    have hl : (times xs ys).length = xs.length + ys.length - 1 := by
      unfold times; rw [if_neg h, to_len, List.length_replicate]
    rw [times_g, hl]
    have hx' : xs.getD (xs.length - 1) 0 ≠ 0 := ((isP_iff xs).mp hx).resolve_left fun e => by subst e; simp at h
    have hy' : ys.getD (ys.length - 1) 0 ≠ 0 := ((isP_iff ys).mp hy).resolve_left fun e => by subst e; simp at h
    have z : ∀ n, n ≤ xs.length - 1 → cf xs ys (xs.length + ys.length - 1 - 1) n = 0 := by
      intro n
      induction n with
      | zero => intro _; rfl
      | succ n ih =>
        intro hn
        rw [cf, ih (by omega), if_pos (by omega), g_out (show ys.length ≤ xs.length + ys.length - 1 - 1 - n by omega), Int.mul_zero]; rfl
    obtain ⟨m, hm⟩ : ∃ m, xs.length = m + 1 := ⟨xs.length - 1, by omega⟩
    rw [hm] at hx' z ⊢
    rw [cf, z m (by omega), if_pos (by omega)]
    have e : m + 1 + ys.length - 1 - 1 - m = ys.length - 1 := by omega
    rw [e, Int.zero_add]
    exact Int.mul_ne_zero hx' hy'
theorem lt_g (xs ys : List Int) (k : Nat) : ∀ n, (iter (lt_ xs ys) [] n).getD k 0 = cf xs ys k n
  | 0 => g_nil k
  | n + 1 => by
    rw [iter_succ, lt_, lplus_g, lt_g xs ys k n, cf]
    congr 1
    unfold ltI
    rw [g_app, zer_rep, g_rep, List.length_replicate, Int.toNat_natCast]
    by_cases h : n ≤ k
    · rw [if_neg (by omega), if_pos h]
      by_cases hz : xs.getD n 0 = 0
      · rw [decide_eq_true hz, Bool.not_true, if_neg Bool.false_ne_true, g_nil, hz, Int.zero_mul]
      · rw [decide_eq_false hz, Bool.not_false, if_pos rfl, g_map _ _ (Int.mul_zero _)]
    · rw [if_pos (by omega), if_neg h]
theorem lt_P (xs ys : List Int) : ∀ n, isP (iter (lt_ xs ys) [] n) = true
  | 0 => rfl
  | n + 1 => by rw [iter_succ, lt_]; exact lplus_P _ _
theorem ltimes_eq (xs ys : List Int) (hx : isP xs = true) (hy : isP ys = true) : times xs ys = ltimes xs ys := uniq (times_P _ _ hx hy) (lt_P _ _ _) fun k => by rw [times_g]; exact (lt_g xs ys k _).symm
theorem scaled_P (xs : List Int) (n : Int) (hx : isP xs = true) : isP (scaled xs n) = true := by
  unfold scaled
  split
  · rfl
  · rename_i h
    rw [isP_iff] at hx ⊢
    rcases hx with e | e
    · subst e; exact .inl rfl
    · right
      rw [g_map _ _ (Int.mul_zero _), List.length_map]
      exact Int.mul_ne_zero h e
theorem raised_P (xs : List Int) (n : Int) (hx : isP xs = true) : isP (raised xs n) = true := by
  unfold raised
  split
  · rfl
  · rename_i h
    rw [isP_iff] at hx ⊢
    right
    rw [g_app, List.length_append, List.length_replicate, if_neg (by omega)]
    have e : n.toNat + xs.length - 1 - n.toNat = xs.length - 1 := by omega
    rw [e]
    exact hx.resolve_left fun e => by subst e; simp at h
theorem val_cons (x : Int) (r : List Int) (u : Int) : val (x :: r) u = val r u * u + x := by
  unfold val
  rw [List.reverse_cons, List.foldl_append]
  rfl
theorem lv_fold (u : Int) : ∀ (xs : List Int) (s p : Int), (xs.foldl (lv u) (s, p)).1 = s + p * val xs u
  | [], s, p => by show s = s + p * 0; omega
  | x :: r, s, p => by
    rw [List.foldl_cons, lv, lv_fold u r, val_cons]
    simp only
    rw [Int.mul_add, Int.add_assoc, Int.add_comm (x * p), Int.mul_comm x p, Int.mul_assoc p u, Int.mul_comm u]
theorem lvalue_eq (xs : List Int) (u : Int) : lvalue xs u = val xs u := by
  unfold lvalue
  rw [lv_fold]; omega
theorem short_eq (t : List Int) : lplus t [] = trim t := uniq (lplus_P _ _) (trim_P _) fun k => by rw [lplus_g, trim_g, g_nil]; omega
theorem isP_trim (t : List Int) : isP t = decide (t = trim t) := by
  by_cases h : isP t = true
  · rw [h]
    exact (decide_eq_true (uniq h (trim_P t) fun k => (trim_g t k).symm)).symm
  · have h' : isP t = false := by simpa using h
    rw [h']
    exact (decide_eq_false fun e => h (by rw [e]; exact trim_P t)).symm
theorem num_sm (ds : List Int) (k : Int) : Sm 2000 (num ds k) := by
  have hp : ((10 : Int) ^ (30 : Int).toNat) = 1000000000000000000000000000000 := by decide
  have h1 := lawAt_bd ds (k + 1) 65536 (by decide)
  have hb : -1000000000000000000000000000001 < num ds k ∧ num ds k < 1000000000000000000000000000001 := by
    unfold num
    rw [hp]
    split
    · omega
    · split
      · omega
      · split
        · omega
        · have h2 := Int.emod_nonneg ((lawAt ds (k + 1) 65536 * 65537 + 12345) ^ (6 : Int).toNat) (show (1000000000000000000000000000000 : Int) ≠ 0 by decide)
          have h3 := Int.emod_lt_of_pos ((lawAt ds (k + 1) 65536 * 65537 + 12345) ^ (6 : Int).toNat) (show (0 : Int) < 1000000000000000000000000000000 by decide)
          rcases Int.emod_two_eq (lawAt ds (k + 1) 65536) with e | e <;> rw [e] <;> omega
  exact (Sm.of (n := 110) hb (by decide)).up (by decide)
theorem upto_sub (t : List Int) : ∀ x ∈ upto t, x ∈ t := fun x h => List.mem_of_mem_take h
theorem drawn_ok (ds : List Int) (f : Int) (hf : 0 ≤ f) : (drawn ds f).length ≤ 41 ∧ Sml (drawn ds f) ∧ isP (drawn ds f) = true := by
  unfold drawn
  split
  · refine ⟨by simp, fun x hx => ?_, ?_⟩
    · rcases List.mem_append.mp hx with h | h
      · obtain ⟨k, hk, rfl⟩ := List.mem_map.mp h
        exact (Sm.of (n := 20) (b := 2001) (by omega) (by decide)).up (by decide)
      · have := lawAt_bd ds (f + 2) 2 (by decide)
        rw [List.mem_singleton] at h
        subst h
        exact (Sm.of (n := 20) (b := 2001) (by omega) (by decide)).up (by decide)
    · rw [isP_iff]
      right
      have := lawAt_bd ds (f + 2) 2 (by decide)
      rw [g_app]
      simp
      omega
  · have hc := lawAt_bd ds (f + 1) (5 + 2) (by decide)
    have hl : (polyN ds (f + 1) 5).length ≤ 7 := by unfold polyN; rw [List.length_map, List.length_range]; omega
    refine ⟨Nat.le_trans (upto_len _) (by omega), fun x hx => ?_, upto_P _⟩
    obtain ⟨m, hm, rfl⟩ := List.mem_map.mp (upto_sub _ x hx)
    exact num_sm _ _
theorem trim_len (t : List Int) : (trim t).length ≤ t.length := by unfold trim; rw [List.length_take]; omega
theorem told_len {O W : List Int} {n p : Int} (l1 : O.length ≤ 41) (l2 : W.length ≤ 41) (hp : 0 ≤ p ∧ p < 41) : ∀ z ∈ [plus O W, times O W, scaled O n, raised O p], z.length ≤ 1000 := by
  intro z hz
  simp only [List.mem_cons, List.not_mem_nil, or_false] at hz
  rcases hz with rfl | rfl | rfl | rfl
  · rw [lplus_eq]
    refine Nat.le_trans (upto_len _) ?_
    rw [lpB_len]; omega
  · unfold times
    split
    · simp
    · rw [to_len, List.length_replicate]; omega
  · unfold scaled
    split
    · simp
    · rw [List.length_map]; omega
  · unfold raised
    split
    · simp
    · rw [List.length_append, List.length_replicate]; omega
theorem told_eq {O W : List Int} {n p : Int} (hx : isP O = true) (hy : isP W = true) : [plus O W, times O W, scaled O n, raised O p] = [lplus O W, ltimes O W, if (!decide (n = 0)) = true then O.map (fun z => n * z) else []] ++ [(List.range (p * if (!decide (O = [])) = true then 1 else 0).toNat).map (fun _ => (0 : Int)) ++ O] := by
  have e3 : scaled O n = if (!decide (n = 0)) = true then O.map (fun z => n * z) else [] := by
    unfold scaled
    by_cases h : n = 0 <;> simp [h]
  have e4 : raised O p = (List.range (p * if (!decide (O = [])) = true then 1 else 0).toNat).map (fun _ => (0 : Int)) ++ O := by
    unfold raised
    by_cases h : O = []
    · subst h; simp
    · have h2 : ¬ O.length = 0 := fun e => h (List.length_eq_zero_iff.mp e)
      rw [if_neg h2, decide_eq_false h, Bool.not_false, if_pos rfl, Int.mul_one, List.map_const', List.length_range]
  rw [lplus_eq, ltimes_eq O W hx hy, e3, e4]
  rfl
theorem told_P {O W : List Int} {n p : Int} (hx : isP O = true) (hy : isP W = true) : (([plus O W, times O W, scaled O n, raised O p].map fun z => isP z).all id) = true := by
  simp [plus_P, times_P _ _ hx hy, scaled_P _ _ hx, raised_P _ _ hx]
/-! ### texts: how long, which signs -/
def Tx (n : Nat) (z : Str) : Prop := z.length ≤ n ∧ (PyData.str z).canLay0 = true
theorem ok_iff (z : Str) : (PyData.str z).canLay0 = true ↔ ∀ c ∈ z.cps.toList, c < 0x110000 := by
  show z.cps.all (fun c => decide (c < 0x110000)) = true ↔ _
  rw [Array.all_eq_true_iff_forall_mem]
  simp
theorem Tx.up {n m : Nat} {z : Str} (h : Tx n z) (hm : n ≤ m) : Tx m z := ⟨Nat.le_trans h.1 hm, h.2⟩
theorem app_cps (x y : Str) : (x ++ y).cps.toList = x.cps.toList ++ y.cps.toList := by
  show (x.cps ++ y.cps).toList = _
  simp
theorem tx_app {a b : Nat} {x y : Str} (h : Tx a x) (g : Tx b y) : Tx (a + b) (x ++ y) := ⟨by
  have := strLen_append x y
  have := h.1
  have := g.1
  omega, by
  rw [ok_iff, app_cps]
  intro c hc
  rcases List.mem_append.mp hc with q | q
  · exact (ok_iff x).mp h.2 c q
  · exact (ok_iff y).mp g.2 c q⟩
theorem fold_rep (l : Array Nat) : ∀ (n : Nat) (acc : Array Nat), ∀ c ∈ ((List.replicate n l).foldl (· ++ ·) acc).toList, c ∈ acc.toList ∨ c ∈ l.toList
  | 0, acc, c, h => .inl h
  | n + 1, acc, c, h => by
    rw [List.replicate_succ, List.foldl_cons] at h
    rcases fold_rep l n _ c h with q | q
    · rw [Array.toList_append] at q
      exact List.mem_append.mp q
    · exact .inr q
theorem mul_mem {x : Str} {n : Int} {c : Nat} (h : c ∈ (Txt.mul x n).cps.toList) : c ∈ x.cps.toList := by
  unfold Txt.mul at h
  split at h
  · exact absurd h (by simp [Str.empty])
  · split at h
    · exact h
    · rcases fold_rep x.cps n.toNat #[] c h with q | q
      · exact absurd q (by simp)
      · exact q
theorem tx_mul {a k : Nat} {x : Str} {n : Int} (h : Tx a x) (hn : n ≤ (k : Int)) : Tx (a * k) (Txt.mul x n) := ⟨by
  have e := len_mul x n
  by_cases h0 : n < 0
  · rw [if_pos (decide_eq_true h0), Int.mul_zero] at e; omega
  · rw [if_neg (fun c => h0 (of_decide_eq_true c))] at e
    have h1 : ((x.length : Int) * n) ≤ (a : Int) * (k : Int) := Int.mul_le_mul (by have := h.1; omega) hn (by omega) (by omega)
    have : ((Txt.mul x n).length : Int) ≤ ((a * k : Nat) : Int) := by rw [e, Int.natCast_mul]; exact h1
    omega, by
  rw [ok_iff]
  intro c hc
  exact (ok_iff x).mp h.2 c (mul_mem hc)⟩
theorem tx_ch {a : Nat} {z : Str} (h : Tx a z) (i : Int) : Tx 1 (chAt z i) := ⟨by simp [chAt, Str.length], by
  rw [ok_iff]
  intro c hc
  have hc : c = z.cps.toList.getD i.toNat 0 := by simpa [chAt] using hc
  rw [hc, List.getD_eq_getElem?_getD]
  cases q : z.cps.toList[i.toNat]? with
  | none => decide
  | some d => exact (ok_iff z).mp h.2 d (List.mem_of_getElem? q)⟩
theorem strI_mem {i : Int} {c : Nat} (h : c ∈ (strI i).cps.toList) : c = 45 ∨ (48 ≤ c ∧ c ≤ 57) := by
  apply Classical.byContradiction
  intro w
  exact int_text_free' c ⟨fun q => w (.inl q), by omega⟩ i h
theorem tx_int {k : Nat} {i : Int} (hk : 0 < k) (h : Sm k i) : Tx (k + 1) (strI i) := ⟨by
  unfold strI
  rw [PySem.ofString_length]
  exact int_text_length_le hk (PySem.Flt.log2_lt_of hk h), by
  rw [ok_iff]
  intro c hc
  have := strI_mem hc
  omega⟩
theorem tx_sh {n : Nat} {z : Str} (h : Tx n z) : SeqAt.shaped (.str z) = true := by
  unfold SeqAt.shaped
  rw [h.2]; rfl
theorem txs_sh {n : Nat} {zs : List Str} (h : ∀ z ∈ zs, Tx n z) : SeqAt.shaped (eL PyData.str zs) = true := by
  unfold SeqAt.shaped
  have h1 : (eL PyData.str zs).canLay0 = true := by
    show PyData.canLayAll0 (zs.map .str) = true
    induction zs with
    | nil => rfl
    | cons z zs ih =>
      show ((PyData.str z).canLay0 && PyData.canLayAll0 (zs.map .str)) = true
      rw [(h z (List.mem_cons_self ..)).2, ih fun y hy => h y (List.mem_cons_of_mem _ hy)]; rfl
  have h2 : PyData.depthAll (zs.map .str) = 0 := by
    clear h h1
    induction zs with
    | nil => rfl
    | cons z zs ih =>
      show max (PyData.depth (.str z)) (PyData.depthAll (zs.map .str)) = 0
      rw [ih]; rfl
  rw [h1]
  show decide (PyData.depthAll (zs.map .str) + 1 ≤ 64) = true
  rw [h2]; rfl
theorem rp_str {n : Nat} {z : Str} (h : Tx n z) : Rp 0 (10 * n + 2) (.str z) := ⟨rfl, h.2, Nat.le_refl _, by
  have h1 := PySem.StrLaws.reprText_len z fun c hc => Nat.lt_of_lt_of_le ((ok_iff z).mp h.2 c hc) (by decide)
  have h2 := h.1
  show (reprText z).length ≤ _
  omega⟩
/-! ### the law's models -/
theorem rngZ_mem {i j z : Int} (h : z ∈ rngZ i j) : i ≤ z ∧ z < j := by
  obtain ⟨k, hk, rfl⟩ := List.mem_map.mp h
  have := List.mem_range.mp hk
  omega
theorem rngZ_len (i j : Int) : (rngZ i j).length = (j - i).toNat := by unfold rngZ; rw [List.length_map, List.length_range]
def LETT : Str := "abcdefghijklmnopqrstuvwxyz"
def DIGW : Str := "0123456789ab"
def nmW0 (c : Int) : Str := chAt LETT (c % 26) ++ Txt.mul (chAt DIGW (c / 26 % 12)) (c / 312 % 3)
def nmW1 (c : Int) : Str := if c / 936 % 4 = 1 then nmW0 c ++ "." ++ chAt LETT (c / 3744 % 26) else nmW0 c
def nmW (c : Int) : Str := if c / 936 % 16 = 7 then nmW1 c ++ Txt.mul "z" (200 - ((nmW1 c).length : Int)) else nmW1 c
def lname (ds : List Int) (k : Int) : Str := nmW (lawAt ds k 60000)
theorem lett_tx : Tx 26 LETT := ⟨by decide +kernel, by decide +kernel⟩
theorem digw_tx : Tx 12 DIGW := ⟨by decide +kernel, by decide +kernel⟩
theorem nmW0_tx (c : Int) : Tx 3 (nmW0 c) := by
  have h := tx_app (tx_ch lett_tx (c % 26)) (tx_mul (k := 2) (n := c / 312 % 3) (tx_ch digw_tx (c / 26 % 12)) (by omega))
  exact h
theorem nmW1_tx (c : Int) : Tx 5 (nmW1 c) := by
  unfold nmW1
  split
  · exact tx_app (tx_app (nmW0_tx c) (b := 1) ⟨by decide +kernel, by decide +kernel⟩) (tx_ch lett_tx _)
  · exact (nmW0_tx c).up (by decide)
theorem nmW_tx (c : Int) : Tx 200 (nmW c) := by
  have h1 := nmW1_tx c
  unfold nmW
  split
  · have hz : Tx 1 ("z" : Str) := ⟨by decide +kernel, by decide +kernel⟩
    have h2 := tx_mul (k := 200 - (nmW1 c).length) (n := 200 - ((nmW1 c).length : Int)) hz (by have := h1.1; omega)
    refine ⟨?_, (tx_app h1 h2).2⟩
    rw [strLen_append]
    have := h2.1
    have := h1.1
    omega
  · exact h1.up (by decide)
def lqw (ds : List Int) (k : Int) (t : Nat) (ns : List Str) : Str := if lname ds (k + t) ∈ ns ∨ (((lname ds (k + t)).length : Int) > 190 ∧ (t : Int) > 0) then "zq" ++ strI t else lname ds (k + t)
def lqn (ds : List Int) (k : Int) : Nat → List Str → List Str := fun t ns => ns ++ [lqw ds k t ns]
def lquant (ds : List Int) (k many : Int) : List Str := iter (lqn ds k) [] many.toNat
theorem lqw_tx {ds : List Int} {k : Int} {t : Nat} {ns : List Str} (ht : t < 1000) : Tx 200 (lqw ds k t ns) := by
  unfold lqw
  split
  · have h := tx_app (a := 2) (x := "zq") ⟨by decide +kernel, by decide +kernel⟩ (tx_int (k := 10) (i := (t : Int)) (by decide) (Sm.of (b := 1000) (by omega) (by decide)))
    exact h.up (by decide)
  · exact nmW_tx _
theorem lq_tx (ds : List Int) (k : Int) : ∀ n, n ≤ 1000 → (iter (lqn ds k) [] n).length = n ∧ ∀ z ∈ iter (lqn ds k) [] n, Tx 200 z
  | 0, _ => ⟨rfl, fun z h => by cases h⟩
  | n + 1, hn => by
    obtain ⟨h1, h2⟩ := lq_tx ds k n (by omega)
    rw [iter_succ, lqn]
    refine ⟨by rw [List.length_append, h1]; rfl, fun z hz => ?_⟩
    rcases List.mem_append.mp hz with q | q
    · exact h2 z q
    · rw [List.mem_singleton.mp q]
      exact lqw_tx (by omega)
def lpl (ds : List Int) (k many : Int) (t : Nat) : Int × Int := (lawAt ds (k + t) 60000 % 4, lawAt ds (k + t) 60000 / 4 % many)
def lps (ds : List Int) (k many : Int) : Nat → List (Int × Int) → List (Int × Int) := fun t ps => if lpl ds k many t ∈ ps then ps else ps ++ [lpl ds k many t]
def lplaces (ds : List Int) (k many size : Int) : List (Int × Int) := iter (lps ds k many) [] size.toNat
def PlOk (many : Int) (ps : List (Int × Int)) : Prop := ps.Nodup ∧ ∀ p ∈ ps, 0 ≤ p.1 ∧ p.1 ≤ 3 ∧ 0 ≤ p.2 ∧ p.2 < many
theorem lpl_ok (ds : List Int) (k : Int) {many : Int} (hm : 0 < many) (t : Nat) : 0 ≤ (lpl ds k many t).1 ∧ (lpl ds k many t).1 ≤ 3 ∧ 0 ≤ (lpl ds k many t).2 ∧ (lpl ds k many t).2 < many := by
  unfold lpl
  refine ⟨Int.emod_nonneg _ (by decide), by omega, Int.emod_nonneg _ (by omega), Int.emod_lt_of_pos _ hm⟩
theorem lps_ok (ds : List Int) (k : Int) {many : Int} (hm : 0 < many) : ∀ n, (iter (lps ds k many) [] n).length ≤ n ∧ PlOk many (iter (lps ds k many) [] n)
  | 0 => ⟨Nat.le_refl _, List.nodup_nil, fun p h => by cases h⟩
  | n + 1 => by
    obtain ⟨h1, h2, h3⟩ := lps_ok ds k hm n
    rw [iter_succ, lps]
    split
    · exact ⟨by omega, h2, h3⟩
    · rename_i hn
      refine ⟨by rw [List.length_append]; simp; omega, List.nodup_append.mpr ⟨h2, by simp, fun a ha b hb z => ?_⟩, fun p hp => ?_⟩
      · rw [List.mem_singleton.mp hb] at z
        exact hn (z ▸ ha)
      · rcases List.mem_append.mp hp with q | q
        · exact h3 p q
        · rw [List.mem_singleton.mp q]; exact lpl_ok ds k hm n
theorem lps_pos {ds : List Int} {k many : Int} : ∀ n, 0 < n → 0 < (iter (lps ds k many) [] n).length
  | 0, h => absurd h (Nat.lt_irrefl _)
  | n + 1, _ => by
    rw [iter_succ, lps]
    by_cases h : 0 < n
    · have := lps_pos (ds := ds) (k := k) (many := many) n h
      split
      · exact this
      · rw [List.length_append]; omega
    · have : n = 0 := by omega
      subst this
      split
      · rename_i q; cases q
      · simp
def lval (c : Int) : Int := ([1, -1, 1000000, -1000000, 1 + c / 6, -1 - c / 6] : List Int).getD (c % 6).toNat 0
def lsrc (ds : List Int) (k number : Int) : Str := (["", "f", "g" ++ strI number, "load.f"] : List Str).getD (lawAt ds k 4).toNat ""
def letm (ds : List Int) (k : Int) (ps : List (Int × Int)) : Nat → Int × Int × Int := fun t => (lval (lawAt ds (k + 7 + t) 60000), (ps.getD t (0, 0)).1, (ps.getD t (0, 0)).2)
def lstm (number : Int) (ps : List (Int × Int)) (t : Int) : Str × Int × Int := ("s" ++ strI number ++ "." ++ chAt "ab" (t / 8) ++ strI t, (ps.getD t.toNat (0, 0)).1, (ps.getD t.toNat (0, 0)).2)
def lone (ds : List Int) (k many number : Int) : Lw :=
  if many = 0 then .ex [] (lsrc ds k number)
  else if lawAt ds (k + 2) 2 = 0 then .ex ((List.range (lplaces ds (k + 3) many (lawAt ds (k + 1) 4)).length).map (letm ds k (lplaces ds (k + 3) many (lawAt ds (k + 1) 4)))) (lsrc ds k number)
  else if ((rngZ 1 ((lplaces ds (k + 3) many (lawAt ds (k + 1) 4 + 2)).length : Int)).map (lstm number (lplaces ds (k + 3) many (lawAt ds (k + 1) 4 + 2)))).length = 0 then .ex [(2, ((lplaces ds (k + 3) many (lawAt ds (k + 1) 4 + 2)).getD 0 (0, 0)).1, ((lplaces ds (k + 3) many (lawAt ds (k + 1) 4 + 2)).getD 0 (0, 0)).2)] (lsrc ds k number)
  else .sz ((lplaces ds (k + 3) many (lawAt ds (k + 1) 4 + 2)).getD 0 (0, 0)).1 ((lplaces ds (k + 3) many (lawAt ds (k + 1) 4 + 2)).getD 0 (0, 0)).2 ((rngZ 1 ((lplaces ds (k + 3) many (lawAt ds (k + 1) 4 + 2)).length : Int)).map (lstm number (lplaces ds (k + 3) many (lawAt ds (k + 1) 4 + 2)))) (lsrc ds k number)
def lgp (many : Int) (n : Int) : List (Int × Int) := (List.range n.toNat).map fun (t : Nat) => ((t : Int) % 4, (t : Int) / 4 % many)
def llong (ds : List Int) (f many : Int) : Lw :=
  if 1 + lawAt ds f (4 * many) < 2 ∨ lawAt ds (f + 1) 2 = 0 then .ex ((List.range (1 + lawAt ds f (4 * many)).toNat).map fun (t : Nat) => (1 + 8000 * (t : Int) - 500000, ((lgp many (1 + lawAt ds f (4 * many))).getD t (0, 0)).1, ((lgp many (1 + lawAt ds f (4 * many))).getD t (0, 0)).2)) (Txt.mul "w" 200)
  else .sz ((lgp many (1 + lawAt ds f (4 * many))).getD 0 (0, 0)).1 ((lgp many (1 + lawAt ds f (4 * many))).getD 0 (0, 0)).2 ((rngZ 1 (1 + lawAt ds f (4 * many))).map fun t => ("long" ++ strI t ++ Txt.mul "z" (190 * (if decide (t = 1 + lawAt ds f (4 * many) - 1) = true then 1 else 0)), ((lgp many (1 + lawAt ds f (4 * many))).getD t.toNat (0, 0)).1, ((lgp many (1 + lawAt ds f (4 * many))).getD t.toNat (0, 0)).2)) ""
def lmMany (ds : List Int) (f : Int) : Int := if lawAt ds (f + 2) 16 = 9 then 29 + lawAt ds f 2 else lawAt ds f 7
def lmLaws (ds : List Int) (f : Int) : Int := if lawAt ds (f + 2) 16 = 9 then 39 + lawAt ds (f + 1) 2 else lawAt ds (f + 1) 7
def lmRows (ds : List Int) (f : Int) : List Lw := (List.range (lmLaws ds f).toNat).map fun (i : Nat) => lone ds (f + 40 + 12 * (i : Int)) (lmMany ds f) (i : Int)
def lmodel (ds : List Int) (f : Int) : List Str × List Lw :=
  (lquant ds (f + 3) (lmMany ds f), if lmMany ds f > 28 then (lmRows ds f).set (lawAt ds (f + 600) (lmLaws ds f)).toNat (llong ds (f + 601) (lmMany ds f)) else lmRows ds f)
/-! ### tables of a model -/
abbrev Md := List Str × List Lw
def tmsD : Lw → List (PyData × Int × Int)
  | .ex ts _ => ts.map fun t => (.int t.1, t.2.1, t.2.2)
  | .sz _ _ ts _ => ts.map fun t => (.str t.1, t.2.1, t.2.2)
def plcs : Lw → List (Int × Int)
  | .ex ts _ => ts.map fun t => (t.2.1, t.2.2)
  | .sz k j ts _ => (k, j) :: ts.map fun t => (t.2.1, t.2.2)
def TmL (z : Lw) : Prop := z.ets.length ≤ 120 ∧ z.sts.length ≤ 120
def ords (z : Lw) (q : Int) : List Int := ((plcs z).filter fun p => decide (p.2 = q)).map (·.1)
def pwr (z : Lw) (q : Int) : Option Int := if ords z q = [] then none else some (maxL (ords z q))
def pwrs (m : Md) : List (List (Option Int)) := m.2.map fun z => (List.range m.1.length).map fun (j : Nat) => pwr z (j : Int)
def exS (t : List (List Int)) (x : Int × Int × Int) : List (List Int) := t.set x.2.2.toNat ((t.getD x.2.2.toNat []).set x.2.1.toNat x.1)
def z40 (n : Int) : List (List Int) := (List.range n.toNat).map fun _ => List.replicate 4 (0 : Int)
def exRow (ts : List (Int × Int × Int)) (n : Int) : List (List Int) := (ts.foldl exS (z40 n)).map trim
def isE (z : Lw) : Bool := decide (z.kind = "exact")
def isZ (z : Lw) : Bool := decide (z.kind = "sized")
def exTab (m : Md) : List (List (List Int)) := (m.2.filter isE).map fun z => exRow z.ets (m.1.length : Int)
def mets (m : Md) : List (List Int) := (m.2.filter isZ).map fun z => sortU ((plcs z).map (·.2))
def eLaws (m : Md) : List Int := ((List.range m.2.length).filter fun i => isE (m.2.getD i default)).map fun (i : Nat) => (i : Int)
def zLaws (m : Md) : List Int := ((List.range m.2.length).filter fun i => isZ (m.2.getD i default)).map fun (i : Nat) => (i : Int)
def szOf (m : Md) : List Str := lc2V isZ Lw.sts (fun _ _ => true) (fun _ t => t.1) m.2
/-- places that fit -/
def FitL (n : Nat) (z : Lw) : Prop := TmL z ∧ ∀ p ∈ plcs z, 0 ≤ p.1 ∧ p.1 ≤ 3 ∧ 0 ≤ p.2 ∧ p.2 < n
def FitM (m : Md) : Prop := m.1.length ≤ 30 ∧ m.2.length ≤ 40 ∧ ∀ z ∈ m.2, FitL m.1.length z
theorem z40_len (n : Int) : (z40 n).length = n.toNat := by unfold z40; simp
theorem exS_len (t : List (List Int)) (x : Int × Int × Int) : (exS t x).length = t.length := by unfold exS; rw [List.length_set]
theorem exF_len (n : Int) : ∀ (ts : List (Int × Int × Int)) (t : List (List Int)), (ts.foldl exS t).length = t.length
  | [], t => rfl
  | x :: ts, t => by rw [List.foldl_cons, exF_len n ts, exS_len]
theorem exS_row {t : List (List Int)} (h : ∀ r ∈ t, r.length = 4) (x : Int × Int × Int) : ∀ r ∈ exS t x, r.length = 4 := fun r hr => by
  unfold exS at hr
  rcases List.mem_or_eq_of_mem_set hr with q | q
  · exact h r q
  · by_cases hl : x.2.2.toNat < t.length
    · rw [q, List.length_set, List.getD_eq_getElem?_getD, List.getElem?_eq_getElem hl]
      exact h _ (List.getElem_mem hl)
    · have : t.set x.2.2.toNat ((t.getD x.2.2.toNat []).set x.2.1.toNat x.1) = t := set_big hl
      rw [this] at hr
      exact h r hr
theorem exF_row : ∀ (ts : List (Int × Int × Int)) (t : List (List Int)), (∀ r ∈ t, r.length = 4) → ∀ r ∈ ts.foldl exS t, r.length = 4
  | [], _, h => h
  | x :: ts, t, h => by rw [List.foldl_cons]; exact exF_row ts _ (exS_row h x)
theorem z40_row (n : Int) : ∀ r ∈ z40 n, r.length = 4 := fun r hr => by
  obtain ⟨_, _, rfl⟩ := List.mem_map.mp (by unfold z40 at hr; exact hr)
  simp
theorem row_at {t : List (List Int)} {k n : Nat} (h : ∀ r ∈ t, r.length = n) (hk : k < t.length) : (t.getD k []).length = n := by
  rw [List.getD_eq_getElem?_getD, List.getElem?_eq_getElem hk]
  exact h _ (List.getElem_mem hk)
theorem plcs_len {z : Lw} (h : TmL z) : (plcs z).length ≤ 121 := by
  cases z with
  | ex ts s => have := h.1; show (ts.map _).length ≤ _; rw [List.length_map]; exact Nat.le_trans this (by decide)
  | sz k j ts s => have := h.2; show (_ :: ts.map _).length ≤ _; rw [List.length_cons, List.length_map]; exact Nat.succ_le_succ this
/-! the law's own -/
def lpw (r : List (Option Int)) (p : Int × Int) : List (Option Int) := if (r.getD p.2.toNat none).isNone = true ∨ (r.getD p.2.toNat none).getD 0 < p.1 then r.set p.2.toNat (some p.1) else r
def lpwR (n : Nat) (z : Lw) : List (Option Int) := (plcs z).foldl lpw (List.replicate n none)
def lpwrs (m : Md) : List (List (Option Int)) := m.2.map (lpwR m.1.length)
def elS (q : Int) (e : List Int) (x : Int × Int × Int) : List Int := if x.2.2 = q then e.set x.2.1.toNat x.1 else e
def elF (q : Int) (ts : List (Int × Int × Int)) : List Int := ts.foldl (elS q) [0, 0, 0, 0]
def ltab (m : Md) : List (List (List Int)) := (m.2.filter isE).map fun z => (List.range m.1.length).map fun (q : Nat) => trim (elF (q : Int) z.ets)
def lmts (m : Md) : List (List Int) := (m.2.filter isZ).map fun z => ((List.range m.1.length).filter fun (j : Nat) => decide ((j : Int) ∈ (plcs z).map (·.2))).map fun (j : Nat) => (j : Int)
theorem lpw_len (r : List (Option Int)) (p : Int × Int) : (lpw r p).length = r.length := by unfold lpw; split <;> simp
theorem lpwF_len : ∀ (ps : List (Int × Int)) (r : List (Option Int)), (ps.foldl lpw r).length = r.length
  | [], _ => rfl
  | p :: ps, r => by rw [List.foldl_cons, lpwF_len ps, lpw_len]
theorem elS_len (q : Int) (e : List Int) (x : Int × Int × Int) : (elS q e x).length = e.length := by unfold elS; split <;> simp
theorem elF_len (q : Int) : ∀ (ts : List (Int × Int × Int)) (e : List Int), (ts.foldl (elS q) e).length = e.length
  | [], _ => rfl
  | x :: ts, e => by rw [List.foldl_cons, elF_len q ts, elS_len]
/-! they are the same -/
theorem pw_same (n : Nat) (z : Lw) (hf : ∀ p ∈ plcs z, 0 ≤ p.2 ∧ p.2 < n) : lpwR n z = (List.range n).map fun (j : Nat) => pwr z (j : Int) := by
  have key : ∀ (ps : List (Int × Int)) (r : List (Option Int)) (j : Nat), j < r.length → (∀ p ∈ ps, 0 ≤ p.2) → (ps.foldl lpw r).getD j none = ((ps.filter fun p => decide (p.2 = (j : Int))).map (·.1)).foldl (fun a k => match a with | none => some k | some b => some (max b k)) (r.getD j none) := by
    intro ps
    induction ps with
    | nil => intro r j _ _; rfl
    | cons p ps ih =>
      intro r j hj hp
      rw [List.foldl_cons, ih _ _ (by rw [lpw_len]; exact hj) fun q hq => hp q (List.mem_cons_of_mem _ hq), List.filter_cons]
      have h0 := hp p (List.mem_cons_self ..)
      by_cases e : p.2 = (j : Int)
      · rw [if_pos (decide_eq_true e), List.map_cons, List.foldl_cons]
        congr 1
        have ej : p.2.toNat = j := by omega
        unfold lpw
        rw [ej]
        cases hr : r.getD j none with
        | none =>
          rw [if_pos (.inl rfl), List.getD_eq_getElem?_getD, List.getElem?_set_self hj]; rfl
        | some b =>
          by_cases hb : b < p.1
          · rw [if_pos (.inr hb), List.getD_eq_getElem?_getD, List.getElem?_set_self hj]
            show some p.1 = some (max b p.1)
            rw [Int.max_eq_right (by omega)]
          · rw [if_neg (by intro q; rcases q with q | q; cases q; exact hb q), hr]
            show some b = some (max b p.1)
            rw [Int.max_eq_left (by omega)]
      · rw [if_neg (by simpa using e)]
        congr 1
        unfold lpw
        split
        · rw [List.getD_eq_getElem?_getD, List.getElem?_set_ne (by omega), ← List.getD_eq_getElem?_getD]
        · rfl
  have fm : ∀ (ks : List Int) (b : Int), ks.foldl (fun (a : Option Int) k => match a with | none => some k | some b => some (max b k)) (some b) = some (ks.foldl max b) := by
    intro ks
    induction ks with
    | nil => intro b; rfl
    | cons k ks ih => intro b; rw [List.foldl_cons, ih]; rfl
  refine List.ext_getElem (by unfold lpwR; rw [lpwF_len]; simp) fun j h1 h2 => ?_
  have hj : j < n := by simpa using h2
  have hl : j < (List.replicate n (none : Option Int)).length := by simpa using hj
  have h := key (plcs z) (List.replicate n none) j hl fun p hp => (hf p hp).1
  have hg : (List.replicate n (none : Option Int)).getD j none = none := by rw [List.getD_eq_getElem?_getD, List.getElem?_replicate]; split <;> rfl
  rw [hg] at h
  have e1 : (lpwR n z)[j] = (lpwR n z).getD j none := by rw [List.getD_eq_getElem?_getD, List.getElem?_eq_getElem h1]; rfl
  rw [e1]
  show (lpwR n z).getD j none = _
  unfold lpwR
  rw [h, List.getElem_map, List.getElem_range]
  unfold pwr ords
  cases (plcs z).filter (fun p => decide (p.2 = (j : Int))) with
  | nil => rfl
  | cons p ps =>
    rw [List.map_cons, List.foldl_cons, if_neg (by simp)]
    show List.foldl _ (some p.1) _ = _
    rw [fm]; rfl
theorem pwrs_same {m : Md} (h : FitM m) : lpwrs m = pwrs m := by
  unfold lpwrs pwrs
  exact List.map_congr_left fun z hz => pw_same _ z fun p hp => ⟨((h.2.2 z hz).2 p hp).2.2.1, ((h.2.2 z hz).2 p hp).2.2.2⟩
theorem ex_same (ts : List (Int × Int × Int)) (n : Nat) (h : ∀ x ∈ ts, 0 ≤ x.2.2) : exRow ts (n : Int) = (List.range n).map fun (q : Nat) => trim (elF (q : Int) ts) := by
  have key : ∀ (ts : List (Int × Int × Int)) (t : List (List Int)) (q : Nat), q < t.length → (∀ x ∈ ts, 0 ≤ x.2.2) → (ts.foldl exS t).getD q [] = ts.foldl (elS (q : Int)) (t.getD q []) := by
    intro ts
    induction ts with
    | nil => intro t q _ _; rfl
    | cons x ts ih =>
      intro t q hq hx
      rw [List.foldl_cons, List.foldl_cons, ih _ _ (by rw [exS_len]; exact hq) fun y hy => hx y (List.mem_cons_of_mem _ hy)]
      congr 1
      have h0 := hx x (List.mem_cons_self ..)
      unfold exS elS
      by_cases e : x.2.2 = (q : Int)
      · have e2 : x.2.2.toNat = q := by omega
        rw [if_pos e, e2, List.getD_eq_getElem?_getD, List.getElem?_set_self hq]; rfl
      · rw [if_neg e, List.getD_eq_getElem?_getD, List.getElem?_set_ne (by omega), ← List.getD_eq_getElem?_getD]
  unfold exRow
  refine List.ext_getElem (by rw [List.length_map, exF_len (n : Int), z40_len]; simp) fun q h1 h2 => ?_
  have hq : q < n := by simpa using h2
  rw [List.getElem_map, List.getElem_map, List.getElem_range]
  congr 1
  have hl : q < (ts.foldl exS (z40 (n : Int))).length := by rw [exF_len (n : Int), z40_len]; omega
  have e1 : (ts.foldl exS (z40 (n : Int)))[q] = (ts.foldl exS (z40 (n : Int))).getD q [] := by rw [List.getD_eq_getElem?_getD, List.getElem?_eq_getElem hl]; rfl
  rw [e1, key ts _ q (by rw [z40_len]; omega) h]
  unfold elF
  congr 1
  unfold z40
  rw [List.getD_eq_getElem?_getD, List.getElem?_map, List.getElem?_range (by omega)]; rfl
theorem ets_mem {z : Lw} {t : Int × Int × Int} (h : t ∈ z.ets) : (t.2.1, t.2.2) ∈ plcs z := by
  cases z with
  | ex ts s => exact List.mem_map.mpr ⟨t, h, rfl⟩
  | sz k j ts s => cases h
theorem tab_same {m : Md} (h : FitM m) : ltab m = exTab m := by
  unfold ltab exTab
  refine List.map_congr_left fun z hz => ?_
  have hz' := (List.mem_filter.mp hz).1
  exact (ex_same z.ets m.1.length fun x hx => ((h.2.2 z hz').2 _ (ets_mem hx)).2.2.1).symm
theorem mt_same {m : Md} (h : FitM m) : lmts m = mets m := by
  unfold lmts mets
  refine List.map_congr_left fun z hz => ?_
  have hz' := (List.mem_filter.mp hz).1
  refine srt_ext ?_ (sortU_srt _) fun k => ?_
  · refine List.pairwise_map.mpr ?_
    exact List.Pairwise.imp (R := fun x1 x2 : Nat => x1 < x2) (fun {a b} hab => (by show (a : Int) < (b : Int); omega)) ((List.pairwise_lt_range (n := m.1.length)).filter _)
  · rw [sortU_mem]
    constructor
    · intro hk
      obtain ⟨j, hj, rfl⟩ := List.mem_map.mp hk
      exact of_decide_eq_true (List.mem_filter.mp hj).2
    · intro hk
      obtain ⟨p, hp, rfl⟩ := List.mem_map.mp hk
      obtain ⟨_, _, h3, h4⟩ := (h.2.2 z hz').2 p hp
      refine List.mem_map.mpr ⟨p.2.toNat, List.mem_filter.mpr ⟨List.mem_range.mpr (by omega), ?_⟩, by omega⟩
      rw [show ((p.2.toNat : Nat) : Int) = p.2 by omega]
      exact decide_eq_true (List.mem_map.mpr ⟨p, hp, rfl⟩)
theorem mets_len {z : Lw} {n : Nat} (h : ∀ p ∈ plcs z, 0 ≤ p.1 ∧ p.1 ≤ 3 ∧ 0 ≤ p.2 ∧ p.2 < n) : (sortU ((plcs z).map (·.2))).length ≤ n := by
  have h1 := nodup_len (l := sortU ((plcs z).map (·.2))) (m := (List.range n).map fun (j : Nat) => (j : Int)) ((sortU_srt _).imp fun {a b} hab e => by omega) fun x hx => by
    obtain ⟨p, hp, rfl⟩ := List.mem_map.mp ((sortU_mem _ x).mp hx)
    obtain ⟨_, _, h3, h4⟩ := h p hp
    exact List.mem_map.mpr ⟨p.2.toNat, List.mem_range.mpr (by omega), by omega⟩
  rw [List.length_map, List.length_range] at h1
  exact h1
theorem getLast_take (E : List Int) {k : Nat} (h : 0 < k) (hk : k ≤ E.length) : (E.take k).getLastD 0 = E.getD (k - 1) 0 := by
  have hl : (E.take k).length = k := by rw [List.length_take]; omega
  rw [List.getLastD_eq_getLast?, List.getLast?_eq_getElem?, hl, List.getElem?_take_of_lt (by omega), List.getD_eq_getElem?_getD]
theorem nz_test2 (E : List Int) (i : Nat) (h : i ≤ nz E) : (decide (((E.take (E.length - i)).length : Int) > 0) && decide ((E.take (E.length - i)).getLastD 0 = 0)) = decide (i < nz E) := by
  rw [← nz_test E i h]
  have hn := nz_le E
  have hl : (E.take (E.length - i)).length = E.length - i := by rw [List.length_take]; omega
  rw [hl]
  by_cases h0 : 0 < E.length - i
  · rw [getLast_take E h0 (by omega)]
    rw [show ((((E.length - i : Nat) : Int) - 1).toNat) = E.length - i - 1 by omega]
  · rw [decide_eq_false (show ¬ (((E.length - i : Nat) : Int) > 0) by omega)]; rfl
theorem dropL_take {E : List Int} {i : Nat} (h : i < E.length) : (E.take (E.length - i)).dropLast = E.take (E.length - (i + 1)) := by
  rw [List.dropLast_eq_take, List.take_take, List.length_take]
  congr 1
  omega
/-! ### models: what fits, how long their texts are -/
inductive RpS (n : Nat) : List PyData → Nat → Prop
  | nil : RpS n [] 0
  | cons {d : PyData} {ds : List PyData} {b s : Nat} : Rp n b d → RpS n ds s → RpS n (d :: ds) (b + 2 + s)
theorem RpS.all {n : Nat} : ∀ {ds : List PyData} {s : Nat}, RpS n ds s → PyData.showableAll ds = true ∧ PyData.canLayAll0 ds = true ∧ PyData.depthAll ds ≤ n ∧ piled (PyData.shownAll ds) ≤ s
  | [], _, h => by cases h; exact ⟨rfl, rfl, Nat.zero_le _, Nat.le_refl _⟩
  | d :: ds, _, h => by
    cases h with
    | @cons _ _ b s h1 h2 =>
      obtain ⟨a1, a2, a3, a4⟩ := RpS.all h2
      refine ⟨?_, ?_, ?_, ?_⟩
      · show (d.showable && PyData.showableAll ds) = true
        rw [h1.sh, a1]; rfl
      · show (d.canLay0 && PyData.canLayAll0 ds) = true
        rw [h1.la, a2]; rfl
      · show max d.depth (PyData.depthAll ds) ≤ n
        have := h1.de
        omega
      · show piled (d.shown :: PyData.shownAll ds) ≤ _
        rw [piled_cons]
        have := h1.le
        omega
theorem rp_tupS {n s : Nat} {ds : List PyData} (h : RpS n ds s) : Rp (n + 1) (3 + s) (.tuple ds) := by
  obtain ⟨h1, h2, h3, h4⟩ := h.all
  refine ⟨h1, h2, Nat.succ_le_succ h3, ?_⟩
  show (("(" : Str) ++ Str.join ", " (PyData.shownAll ds) ++ (if (PyData.shownAll ds).length == 1 then ",)" else ")" : String)).length ≤ _
  rw [strLen_append, strLen_append]
  have e1 : ("(" : Str).length = 1 := by decide +kernel
  have e2 : ((if (PyData.shownAll ds).length == 1 then ",)" else ")" : String) : Str).length ≤ 2 := by
    split
    · decide +kernel
    · decide +kernel
  have e3 : (Str.join ", " (PyData.shownAll ds)).length ≤ s := by
    cases hq : PyData.shownAll ds with
    | nil => rw [show (Str.join (", " : Str) []).length = 0 from by decide +kernel]; exact Nat.zero_le _
    | cons t ts =>
      have := join_length_add (t :: ts) (by simp)
      rw [hq] at h4
      omega
  omega
def LwTx (z : Lw) : Prop := Tx 201 z.src ∧ TmL z ∧ (∀ t ∈ z.ets, Sm 24 t.1 ∧ Sm 24 t.2.1 ∧ Sm 24 t.2.2) ∧ (∀ t ∈ z.sts, Tx 210 t.1 ∧ Sm 24 t.2.1 ∧ Sm 24 t.2.2) ∧ ∀ p ∈ plcs z, Sm 24 p.1 ∧ Sm 24 p.2
theorem rp_lw {z : Lw} (h : LwTx z) : Rp 3 263000 (eLw z) := by
  obtain ⟨h1, ⟨hl1, hl2⟩, h2, h3, h4⟩ := h
  cases z with
  | ex ts s =>
    have hs : Rp 2 2012 (PyData.str s) := (rp_str h1).up (by decide) (by decide)
    have ht : Rp 2 (2 + 120 * (84 + 2)) (eL (eT3 PyData.int PyData.int PyData.int) ts) := rp_L (n := 1) (b := 84) (m := 120) (fun t ht => by
      obtain ⟨a1, a2, a3⟩ := h2 t ht
      exact rp_tupS (.cons (rp_int (by decide) (by decide) a1) (.cons (rp_int (by decide) (by decide) a2) (.cons (rp_int (by decide) (by decide) a3) .nil)))) hl1
    have he : Rp 2 52 (PyData.str "exact") := (rp_str (n := 5) ⟨by decide +kernel, by decide +kernel⟩).up (by decide) (by decide)
    exact (rp_tupS (.cons he (.cons ht (.cons hs .nil)))).up (by decide) (by decide)
  | sz k j ts s =>
    have hs : Rp 2 2012 (PyData.str s) := (rp_str h1).up (by decide) (by decide)
    have ht : Rp 2 (2 + 120 * (2161 + 2)) (eL (eT3 PyData.str PyData.int PyData.int) ts) := rp_L (n := 1) (b := 2161) (m := 120) (fun t ht => by
      obtain ⟨a1, a2, a3⟩ := h3 t ht
      exact rp_tupS (.cons (rp_str a1) (.cons (rp_int (by decide) (by decide) a2) (.cons (rp_int (by decide) (by decide) a3) .nil)))) hl2
    have he : Rp 2 52 (PyData.str "sized") := (rp_str (n := 5) ⟨by decide +kernel, by decide +kernel⟩).up (by decide) (by decide)
    have hp := h4 (k, j) (List.mem_cons_self ..)
    exact (rp_tupS (.cons he (.cons ((rp_int (by decide) (by decide) hp.1).up (by decide) (Nat.le_refl _)) (.cons ((rp_int (by decide) (by decide) hp.2).up (by decide) (Nat.le_refl _)) (.cons ht (.cons hs .nil)))))).up (by decide) (by decide)
def MdTx (m : Md) : Prop := m.1.length ≤ 40 ∧ m.2.length ≤ 50 ∧ (∀ n ∈ m.1, Tx 201 n) ∧ ∀ z ∈ m.2, LwTx z
theorem rp_md {m : Md} (h : MdTx m) : Rp 5 14000000 (eT2 (eL PyData.str) (eL eLw) m) := by
  obtain ⟨h1, h2, h3, h4⟩ := h
  have a := rp_L (n := 0) (b := 2012) (m := 40) (f := PyData.str) (zs := m.1) (fun z hz => rp_str (h3 z hz)) h1
  have b := rp_L (n := 3) (b := 263000) (m := 50) (f := eLw) (zs := m.2) (fun z hz => rp_lw (h4 z hz)) h2
  exact (rp_tupS (n := 4) (.cons (a.up (by decide) (Nat.le_refl _)) (.cons b .nil))).up (by decide) (by decide)
/-! the drawn ones -/
theorem lsrc_tx {ds : List Int} {k n : Int} (hn : 0 ≤ n ∧ n ≤ 1000) : Tx 201 (lsrc ds k n) := by
  have a4 := lawAt_bd ds k 4 (by decide)
  have h : ∀ z ∈ (["", "f", "g" ++ strI n, "load.f"] : List Str), Tx 201 z := fun z hz => by
    simp only [List.mem_cons, List.not_mem_nil, or_false] at hz
    rcases hz with rfl | rfl | rfl | rfl
    · exact ⟨by decide +kernel, by decide +kernel⟩
    · exact ⟨by decide +kernel, by decide +kernel⟩
    · exact (tx_app (a := 1) (x := "g") ⟨by decide +kernel, by decide +kernel⟩ (tx_int (k := 10) (i := n) (by decide) (Sm.of (b := 1024) (by omega) (by decide)))).up (by decide)
    · exact ⟨by decide +kernel, by decide +kernel⟩
  unfold lsrc
  rw [List.getD_eq_getElem?_getD, List.getElem?_eq_getElem (by simp; omega)]
  exact h _ (List.getElem_mem _)
theorem pl_at {many : Int} {ps : List (Int × Int)} (h : PlOk many ps) {t : Nat} (ht : t < ps.length) : ps.getD t (0, 0) ∈ ps ∧ 0 ≤ (ps.getD t (0, 0)).1 ∧ (ps.getD t (0, 0)).1 ≤ 3 ∧ 0 ≤ (ps.getD t (0, 0)).2 ∧ (ps.getD t (0, 0)).2 < many := by
  have e : ps.getD t (0, 0) ∈ ps := by
    rw [List.getD_eq_getElem?_getD, List.getElem?_eq_getElem ht]
    exact List.getElem_mem ht
  exact ⟨e, h.2 _ e⟩
theorem lval_sm {c : Int} (hc : 0 ≤ c ∧ c < 60000) : Sm 24 (lval c) ∧ lval c ≠ 0 ∧ -1000000 ≤ lval c ∧ lval c ≤ 1000000 := by
  have h : ∀ x ∈ ([1, -1, 1000000, -1000000, 1 + c / 6, -1 - c / 6] : List Int), -1000000 ≤ x ∧ x ≤ 1000000 ∧ x ≠ 0 := fun x hx => by
    simp only [List.mem_cons, List.not_mem_nil, or_false] at hx
    rcases hx with rfl | rfl | rfl | rfl | rfl | rfl <;> omega
  unfold lval
  rw [List.getD_eq_getElem?_getD, List.getElem?_eq_getElem (by simp; omega)]
  obtain ⟨h1, h2, h3⟩ := h _ (List.getElem_mem (show (c % 6).toNat < ([1, -1, 1000000, -1000000, 1 + c / 6, -1 - c / 6] : List Int).length by simp; omega))
  rw [Option.getD_some]
  exact ⟨Sm.of (b := 1000001) (by omega) (by decide), h3, h1, h2⟩
theorem sm_pl {a b : Int} {n : Nat} (h : 0 ≤ a ∧ a ≤ 3 ∧ 0 ≤ b ∧ b < n) (hn : n ≤ 1000) : Sm 24 a ∧ Sm 24 b := ⟨Sm.of (b := 1024) (by omega) (by decide), Sm.of (b := 1024) (by omega) (by decide)⟩
theorem lone_ok {ds : List Int} {k many n : Int} (hm : 0 ≤ many ∧ many ≤ 1000) (hn : 0 ≤ n ∧ n ≤ 1000) : FitL many.toNat (lone ds k many n) ∧ LwTx (lone ds k many n) := by
  have hs := lsrc_tx (ds := ds) (k := k) hn
  have b4 := lawAt_bd ds (k + 1) 4 (by decide)
  unfold lone
  split
  · exact ⟨⟨⟨by simp [Lw.ets], by simp [Lw.sts]⟩, (fun p hp => by cases hp)⟩, hs, ⟨by simp [Lw.ets], by simp [Lw.sts]⟩, (fun t ht => by cases ht), (fun t ht => by cases ht), (fun p hp => by cases hp)⟩
  · rename_i h0
    split
    · obtain ⟨hl, hpo⟩ := lps_ok ds (k + 3) (show 0 < many by omega) (lawAt ds (k + 1) 4).toNat
      have hl : (lplaces ds (k + 3) many (lawAt ds (k + 1) 4)).length ≤ (lawAt ds (k + 1) 4).toNat := hl
      have hpo : PlOk many (lplaces ds (k + 3) many (lawAt ds (k + 1) 4)) := hpo
      generalize lplaces ds (k + 3) many (lawAt ds (k + 1) 4) = ps at *
      have hpl : ∀ p ∈ ((List.range ps.length).map (letm ds k ps)).map (fun (t : Int × Int × Int) => (t.2.1, t.2.2)), 0 ≤ p.1 ∧ p.1 ≤ 3 ∧ 0 ≤ p.2 ∧ p.2 < many.toNat := fun p hp => by
        obtain ⟨t, ht, rfl⟩ := List.mem_map.mp hp
        obtain ⟨i, hi, rfl⟩ := List.mem_map.mp ht
        obtain ⟨_, q1, q2, q3, q4⟩ := pl_at hpo (List.mem_range.mp hi)
        exact ⟨q1, q2, q3, by show (ps.getD i (0, 0)).2 < _; omega⟩
      have htl : TmL (Lw.ex ((List.range ps.length).map (letm ds k ps)) (lsrc ds k n)) := ⟨by show ((List.range ps.length).map _).length ≤ _; rw [List.length_map, List.length_range]; omega, by simp [Lw.sts]⟩
      refine ⟨⟨htl, hpl⟩, hs, htl, fun t ht => ?_, (fun t ht => by cases ht), fun p hp => sm_pl (hpl p hp) (by omega)⟩
      have hp := hpl (t.2.1, t.2.2) (List.mem_map.mpr ⟨t, ht, rfl⟩)
      obtain ⟨i, hi, rfl⟩ := List.mem_map.mp (show t ∈ (List.range ps.length).map (letm ds k ps) from ht)
      exact ⟨(lval_sm (lawAt_bd ds _ 60000 (by decide))).1, sm_pl hp (by omega)⟩
    · obtain ⟨hl, hpo⟩ := lps_ok ds (k + 3) (show 0 < many by omega) (lawAt ds (k + 1) 4 + 2).toNat
      have hl : (lplaces ds (k + 3) many (lawAt ds (k + 1) 4 + 2)).length ≤ (lawAt ds (k + 1) 4 + 2).toNat := hl
      have hpo : PlOk many (lplaces ds (k + 3) many (lawAt ds (k + 1) 4 + 2)) := hpo
      have hp0 : 0 < (lplaces ds (k + 3) many (lawAt ds (k + 1) 4 + 2)).length := lps_pos _ (by omega)
      generalize lplaces ds (k + 3) many (lawAt ds (k + 1) 4 + 2) = ps at *
      obtain ⟨_, q1, q2, q3, q4⟩ := pl_at hpo hp0
      split
      · have hpl : ∀ p ∈ plcs (Lw.ex [(2, (ps.getD 0 (0, 0)).1, (ps.getD 0 (0, 0)).2)] (lsrc ds k n)), 0 ≤ p.1 ∧ p.1 ≤ 3 ∧ 0 ≤ p.2 ∧ p.2 < many.toNat := fun p hp => by
          have : p = ((ps.getD 0 (0, 0)).1, (ps.getD 0 (0, 0)).2) := by simpa [plcs] using hp
          rw [this]
          exact ⟨q1, q2, q3, by show (ps.getD 0 (0, 0)).2 < _; omega⟩
        have htl : TmL (Lw.ex [(2, (ps.getD 0 (0, 0)).1, (ps.getD 0 (0, 0)).2)] (lsrc ds k n)) := ⟨by simp [Lw.ets], by simp [Lw.sts]⟩
        refine ⟨⟨htl, hpl⟩, hs, htl, fun t ht => ?_, (fun t ht => by cases ht), fun p hp => sm_pl (hpl p hp) (by omega)⟩
        have : t = (2, (ps.getD 0 (0, 0)).1, (ps.getD 0 (0, 0)).2) := by simpa [Lw.ets] using ht
        rw [this]
        have := sm_pl (a := (ps.getD 0 (0, 0)).1) (b := (ps.getD 0 (0, 0)).2) (n := many.toNat) ⟨q1, q2, q3, by omega⟩ (by omega)
        exact ⟨Sm.of (b := 1024) (by omega) (by decide), this.1, this.2⟩
      · have hst : ∀ t ∈ (rngZ 1 (ps.length : Int)).map (lstm n ps), Tx 210 t.1 ∧ 0 ≤ t.2.1 ∧ t.2.1 ≤ 3 ∧ 0 ≤ t.2.2 ∧ t.2.2 < many.toNat := fun t ht => by
          obtain ⟨i, hi, rfl⟩ := List.mem_map.mp ht
          have hi := rngZ_mem hi
          obtain ⟨_, r1, r2, r3, r4⟩ := pl_at hpo (t := i.toNat) (by omega)
          refine ⟨?_, r1, r2, r3, by show (ps.getD i.toNat (0, 0)).2 < _; omega⟩
          exact (tx_app (tx_app (tx_app (tx_app (a := 1) (x := "s") ⟨by decide +kernel, by decide +kernel⟩ (tx_int (k := 10) (i := n) (by decide) (Sm.of (b := 1024) (by omega) (by decide)))) (b := 1) (y := ".") ⟨by decide +kernel, by decide +kernel⟩) (tx_ch (z := "ab") (a := 2) ⟨by decide +kernel, by decide +kernel⟩ (i / 8))) (tx_int (k := 10) (i := i) (by decide) (Sm.of (b := 1024) (by omega) (by decide)))).up (by decide)
        have hpl : ∀ p ∈ plcs (Lw.sz (ps.getD 0 (0, 0)).1 (ps.getD 0 (0, 0)).2 ((rngZ 1 (ps.length : Int)).map (lstm n ps)) (lsrc ds k n)), 0 ≤ p.1 ∧ p.1 ≤ 3 ∧ 0 ≤ p.2 ∧ p.2 < many.toNat := fun p hp => by
          rcases List.mem_cons.mp hp with rfl | hp
          · exact ⟨q1, q2, q3, by show (ps.getD 0 (0, 0)).2 < _; omega⟩
          · obtain ⟨t, ht, rfl⟩ := List.mem_map.mp hp
            exact (hst t ht).2
        have htl : TmL (Lw.sz (ps.getD 0 (0, 0)).1 (ps.getD 0 (0, 0)).2 ((rngZ 1 (ps.length : Int)).map (lstm n ps)) (lsrc ds k n)) := ⟨by simp [Lw.ets], by show ((rngZ 1 (ps.length : Int)).map _).length ≤ _; rw [List.length_map, rngZ_len]; omega⟩
        refine ⟨⟨htl, hpl⟩, hs, htl, (fun t ht => by cases ht), fun t ht => ?_, fun p hp => sm_pl (hpl p hp) (by omega)⟩
        have := hst t ht
        exact ⟨this.1, sm_pl this.2 (by omega)⟩
theorem lgp_at {v n : Int} (hv : 0 < v) {t : Nat} (ht : t < n.toNat) : (lgp v n).getD t (0, 0) = ((t : Int) % 4, (t : Int) / 4 % v) := by
  unfold lgp
  rw [List.getD_eq_getElem?_getD, List.getElem?_map, List.getElem?_range ht]; rfl
theorem llong_ok {ds : List Int} {f many : Int} (hm : 0 < many ∧ many ≤ 30) : FitL many.toNat (llong ds f many) ∧ LwTx (llong ds f many) := by
  have a4 := lawAt_bd ds f (4 * many) (by omega)
  generalize hsz : 1 + lawAt ds f (4 * many) = s at *
  have hs : 0 < s ∧ s ≤ 120 := by omega
  have hw : Tx 201 (Txt.mul "w" 200) := (tx_mul (a := 1) (k := 200) ⟨by decide +kernel, by decide +kernel⟩ (by decide)).up (by decide)
  have pok : ∀ t : Nat, t < s.toNat → 0 ≤ ((lgp many s).getD t (0, 0)).1 ∧ ((lgp many s).getD t (0, 0)).1 ≤ 3 ∧ 0 ≤ ((lgp many s).getD t (0, 0)).2 ∧ ((lgp many s).getD t (0, 0)).2 < many.toNat := fun t ht => by
    rw [lgp_at hm.1 ht]
    refine ⟨Int.emod_nonneg _ (by decide), by show (t : Int) % 4 ≤ 3; omega, Int.emod_nonneg _ (by omega), ?_⟩
    have := Int.emod_lt_of_pos ((t : Int) / 4) hm.1
    show (t : Int) / 4 % many < _
    omega
  unfold llong
  rw [hsz]
  split
  · have hpl : ∀ p ∈ plcs (Lw.ex ((List.range s.toNat).map fun (t : Nat) => (1 + 8000 * (t : Int) - 500000, ((lgp many s).getD t (0, 0)).1, ((lgp many s).getD t (0, 0)).2)) (Txt.mul "w" 200)), 0 ≤ p.1 ∧ p.1 ≤ 3 ∧ 0 ≤ p.2 ∧ p.2 < many.toNat := fun p hp => by
      obtain ⟨t, ht, rfl⟩ := List.mem_map.mp hp
      obtain ⟨i, hi, rfl⟩ := List.mem_map.mp ht
      exact pok i (List.mem_range.mp hi)
    have htl : TmL (Lw.ex ((List.range s.toNat).map fun (t : Nat) => (1 + 8000 * (t : Int) - 500000, ((lgp many s).getD t (0, 0)).1, ((lgp many s).getD t (0, 0)).2)) (Txt.mul "w" 200)) := ⟨by show ((List.range s.toNat).map _).length ≤ _; rw [List.length_map, List.length_range]; omega, by simp [Lw.sts]⟩
    refine ⟨⟨htl, hpl⟩, hw, htl, fun t ht => ?_, (fun t ht => by cases ht), fun p hp => sm_pl (hpl p hp) (by omega)⟩
    have hp := hpl (t.2.1, t.2.2) (List.mem_map.mpr ⟨t, ht, rfl⟩)
    obtain ⟨i, hi, rfl⟩ := List.mem_map.mp (show t ∈ (List.range s.toNat).map _ from ht)
    have := List.mem_range.mp hi
    exact ⟨Sm.of (b := 1000001) (by constructor <;> (show _ < _; omega)) (by decide), sm_pl hp (by omega)⟩
  · have hst : ∀ t ∈ (rngZ 1 s).map (fun t => (("long" ++ strI t ++ Txt.mul "z" (190 * (if decide (t = s - 1) = true then 1 else 0)) : Str), ((lgp many s).getD t.toNat (0, 0)).1, ((lgp many s).getD t.toNat (0, 0)).2)), Tx 210 t.1 ∧ 0 ≤ t.2.1 ∧ t.2.1 ≤ 3 ∧ 0 ≤ t.2.2 ∧ t.2.2 < many.toNat := fun t ht => by
      obtain ⟨i, hi, rfl⟩ := List.mem_map.mp ht
      have hi := rngZ_mem hi
      refine ⟨?_, pok i.toNat (by omega)⟩
      exact (tx_app (tx_app (a := 4) (x := "long") ⟨by decide +kernel, by decide +kernel⟩ (tx_int (k := 10) (i := i) (by decide) (Sm.of (b := 1024) (by omega) (by decide)))) (tx_mul (a := 1) (k := 190) (x := "z") ⟨by decide +kernel, by decide +kernel⟩ (by split <;> decide))).up (by decide)
    have hpl : ∀ p ∈ plcs (Lw.sz ((lgp many s).getD 0 (0, 0)).1 ((lgp many s).getD 0 (0, 0)).2 ((rngZ 1 s).map (fun t => (("long" ++ strI t ++ Txt.mul "z" (190 * (if decide (t = s - 1) = true then 1 else 0)) : Str), ((lgp many s).getD t.toNat (0, 0)).1, ((lgp many s).getD t.toNat (0, 0)).2))) ""), 0 ≤ p.1 ∧ p.1 ≤ 3 ∧ 0 ≤ p.2 ∧ p.2 < many.toNat := fun p hp => by
      rcases List.mem_cons.mp hp with rfl | hp
      · exact pok 0 (by omega)
      · obtain ⟨t, ht, rfl⟩ := List.mem_map.mp hp
        exact (hst t ht).2
    have htl : TmL (Lw.sz ((lgp many s).getD 0 (0, 0)).1 ((lgp many s).getD 0 (0, 0)).2 ((rngZ 1 s).map (fun t => (("long" ++ strI t ++ Txt.mul "z" (190 * (if decide (t = s - 1) = true then 1 else 0)) : Str), ((lgp many s).getD t.toNat (0, 0)).1, ((lgp many s).getD t.toNat (0, 0)).2))) "") := ⟨by simp [Lw.ets], by show ((rngZ 1 s).map _).length ≤ _; rw [List.length_map, rngZ_len]; omega⟩
    refine ⟨⟨htl, hpl⟩, (⟨by decide +kernel, by decide +kernel⟩ : Tx 201 ""), htl, (fun t ht => by cases ht), fun t ht => ?_, fun p hp => sm_pl (hpl p hp) (by omega)⟩
    have := hst t ht
    exact ⟨this.1, sm_pl this.2 (by omega)⟩
theorem lm_bd (ds : List Int) (f : Int) : 0 ≤ lmMany ds f ∧ lmMany ds f ≤ 30 ∧ 0 ≤ lmLaws ds f ∧ lmLaws ds f ≤ 40 := by
  have h1 := lawAt_bd ds f 2 (by decide)
  have h2 := lawAt_bd ds f 7 (by decide)
  have h3 := lawAt_bd ds (f + 1) 2 (by decide)
  have h4 := lawAt_bd ds (f + 1) 7 (by decide)
  unfold lmMany lmLaws
  split <;> omega
theorem LwTx.row {ds : List Int} {f : Int} {z : Lw} (h : z ∈ lmRows ds f) : FitL (lmMany ds f).toNat z ∧ LwTx z := by
  obtain ⟨h1, h2, h3, h4⟩ := lm_bd ds f
  obtain ⟨i, hi, rfl⟩ := List.mem_map.mp h
  have := List.mem_range.mp hi
  exact lone_ok ⟨h1, by omega⟩ (by omega)
theorem lmodel_ok (ds : List Int) (f : Int) : FitM (lmodel ds f) ∧ MdTx (lmodel ds f) := by
  obtain ⟨h1, h2, h3, h4⟩ := lm_bd ds f
  obtain ⟨q1, q2⟩ := lq_tx ds (f + 3) (lmMany ds f).toNat (by omega)
  have hq : (lquant ds (f + 3) (lmMany ds f)).length = (lmMany ds f).toNat := q1
  have hr : (lmRows ds f).length = (lmLaws ds f).toNat := by unfold lmRows; rw [List.length_map, List.length_range]
  have hz : ∀ z ∈ (lmodel ds f).2, FitL (lmMany ds f).toNat z ∧ LwTx z := fun z hz => by
    unfold lmodel at hz
    simp only at hz
    split at hz
    · rcases List.mem_or_eq_of_mem_set hz with q | q
      · exact LwTx.row q
      · rw [q]; exact llong_ok (by omega)
    · exact LwTx.row hz
  have hl : (lmodel ds f).2.length ≤ 40 := by
    unfold lmodel
    simp only
    split
    · rw [List.length_set]; omega
    · omega
  have hn : (lmodel ds f).1.length = (lmMany ds f).toNat := hq
  exact ⟨⟨by omega, by omega, fun z h => by rw [hn]; exact (hz z h).1⟩, by omega, by omega, fun n h => (q2 n h).up (by decide), fun z h => (hz z h).2⟩
/-! ### what is told -/
abbrev TT := List (List Tr)
def zaT (m : Md) : TT := (pwrs m).map fun r => r.map (lf (eO PyData.int))
def zbT (m : Md) : TT := (exTab m).map fun r => r.map (nT (lf PyData.int))
def zcT (m : Md) : TT := (mets m).map fun r => r.map (lf PyData.int)
def gg3 (z : TT) : Tr := .node (z.map Tr.node)
def rsT (m : Md) : List Tr := [nT (lf PyData.int) (eLaws m), nT (lf PyData.int) (zLaws m), nT (lf PyData.str) (szOf m)]
def told6 (m : Md) : Tr := .node ([zaT m, zbT m, zcT m].map gg3 ++ rsT m)
def told6L (m : Md) : List PyData := [eL (eL (eO PyData.int)) (pwrs m), eL (eL (eL PyData.int)) (exTab m), eL (eL PyData.int) (mets m), eL PyData.int (eLaws m), eL PyData.int (zLaws m), eL PyData.str (szOf m)]
theorem told6_eq (m : Md) : told6 m = .node [nT (nT (lf (eO PyData.int))) (pwrs m), nT (nT (nT (lf PyData.int))) (exTab m), nT (nT (lf PyData.int)) (mets m), nT (lf PyData.int) (eLaws m), nT (lf PyData.int) (zLaws m), nT (lf PyData.str) (szOf m)] := by
  show Tr.node [gg3 (zaT m), gg3 (zbT m), gg3 (zcT m), _, _, _] = _
  unfold gg3 zaT zbT zcT
  rw [List.map_map, List.map_map, List.map_map]; rfl
theorem td6 {m : Md} : TrD (told6 m) (eL (fun z => z) (told6L m)) := by
  rw [told6_eq]
  exact .node (.cons (td_N fun _ => td_N fun _ => td_lf) (.cons (td_N fun _ => td_N fun _ => td_N fun _ => td_lf) (.cons (td_N fun _ => td_N fun _ => td_lf) (.cons (td_N fun _ => td_lf) (.cons (td_N fun _ => td_lf) (.cons (td_N fun _ => td_lf) .nil))))))
theorem lcz_len {m : Md} (h : FitM m) (i : Nat) : (lc2V isZ Lw.sts (fun _ _ => true) (fun _ t => t.1) (m.2.take i)).length ≤ 4800 := by
  have key : ∀ (zs : List Lw), (∀ z ∈ zs, TmL z) → (lc2V isZ Lw.sts (fun _ _ => true) (fun _ t => t.1) zs).length ≤ 120 * zs.length := by
    intro zs
    induction zs with
    | nil => intro _; exact Nat.le_refl _
    | cons z zs ih =>
      intro hz
      have h1 := ih fun y hy => hz y (List.mem_cons_of_mem _ hy)
      have h2 := (hz z (List.mem_cons_self ..)).2
      unfold lc2V at *
      rw [List.filter_cons]
      split
      · rw [List.flatMap_cons, List.length_append, List.length_map, List.length_cons]
        have h3 := List.length_filter_le (fun _ => true) z.sts
        show (List.filter (fun _ => true) z.sts).length + _ ≤ _
        omega
      · rw [List.length_cons]; omega
  have h1 := key (m.2.take i) fun z hz => (h.2.2 z (List.mem_of_mem_take hz)).1
  have h2 := h.2.1
  have h3 := List.length_take_le i m.2
  have h4 := List.length_take_le' i m.2
  omega
theorem szOf_len {m : Md} (h : FitM m) : (szOf m).length ≤ 4800 := by
  have := lcz_len h m.2.length
  rwa [List.take_length] at this
theorem szOf_mem {zs : List Lw} {s : Str} (h : s ∈ lc2V isZ Lw.sts (fun _ _ => true) (fun _ t => t.1) zs) : ∃ z ∈ zs, ∃ t ∈ z.sts, t.1 = s := by
  unfold lc2V at h
  obtain ⟨z, hz, hs⟩ := List.mem_flatMap.mp h
  obtain ⟨t, ht, rfl⟩ := List.mem_map.mp hs
  exact ⟨z, (List.mem_filter.mp hz).1, t, (List.mem_filter.mp ht).1, rfl⟩
theorem exRow_len (ts : List (Int × Int × Int)) (n : Nat) : (exRow ts (n : Int)).length = n := by unfold exRow; rw [List.length_map, exF_len (n : Int), z40_len, Int.toNat_natCast]
theorem exRow_el {ts : List (Int × Int × Int)} {n : Int} {e : List Int} (h : e ∈ exRow ts n) : e.length ≤ 4 := by
  unfold exRow at h
  obtain ⟨r, hr, rfl⟩ := List.mem_map.mp h
  have := exF_row ts _ (z40_row n) r hr
  exact Nat.le_trans (trim_len r) (by omega)
theorem rows3 {m : Md} (h : FitM m) : ∀ z ∈ [zaT m, zbT m, zcT m], z.length ≤ 40 ∧ ∀ r ∈ z, r.length ≤ 30 := fun z hz => by
  obtain ⟨h30, h40, hf⟩ := h
  simp only [List.mem_cons, List.not_mem_nil, or_false] at hz
  rcases hz with rfl | rfl | rfl
  · refine ⟨by unfold zaT pwrs; rw [List.length_map, List.length_map]; exact h40, fun r hr => ?_⟩
    obtain ⟨r2, hr2, rfl⟩ := List.mem_map.mp hr
    obtain ⟨y, hy, rfl⟩ := List.mem_map.mp hr2
    rw [List.length_map, List.length_map, List.length_range]; exact h30
  · refine ⟨by unfold zbT exTab; rw [List.length_map, List.length_map]; exact Nat.le_trans (List.length_filter_le ..) h40, fun r hr => ?_⟩
    obtain ⟨r2, hr2, rfl⟩ := List.mem_map.mp hr
    obtain ⟨y, hy, rfl⟩ := List.mem_map.mp hr2
    rw [List.length_map, exRow_len]; exact h30
  · refine ⟨by unfold zcT mets; rw [List.length_map, List.length_map]; exact Nat.le_trans (List.length_filter_le ..) h40, fun r hr => ?_⟩
    obtain ⟨r2, hr2, rfl⟩ := List.mem_map.mp hr
    obtain ⟨y, hy, rfl⟩ := List.mem_map.mp hr2
    rw [List.length_map]
    exact Nat.le_trans (mets_len (hf y (List.mem_filter.mp hy).1).2) h30
theorem zb_row {m : Md} {r : List Tr} (h : r ∈ zbT m) : ∃ e : List (List Int), r = e.map (nT (lf PyData.int)) ∧ ∀ x ∈ e, x.length ≤ 4 := by
  obtain ⟨e, he, rfl⟩ := List.mem_map.mp h
  obtain ⟨y, hy, rfl⟩ := List.mem_map.mp he
  exact ⟨_, rfl, fun x hx => exRow_el hx⟩
def add5 : Tr → Tr
  | .node ts => .node (ts ++ [Tr.leaf (.int 5)])
  | t => t
def g77 (r : List Tr) : Tr := .node (r ++ [Tr.leaf (.int 77)])
def g3b (z : TT) : Tr := .node (z.map g77)
def g5 (r : List Tr) : Tr := .node (r.map add5 ++ [Tr.leaf (.int 77)])
def six (m : Md) : TT := [(zaT m).map g77, (zbT m).map g5, (zcT m).map g77, (eLaws m).map (lf PyData.int), (zLaws m).map (lf PyData.int), (szOf m).map (lf PyData.str)]
theorem six_len {m : Md} (h : FitM m) : ∀ z ∈ six m, z.length < 1000000 := fun z hz => by
  have h1 := fun z hz => (rows3 h z hz).1
  have h2 := h1 _ (List.mem_cons_self ..)
  have h3 := h1 (zbT m) (by simp)
  have h4 := h1 (zcT m) (by simp)
  have h5 := szOf_len h
  have h40 := h.2.1
  have e1 : (eLaws m).length ≤ 40 := by unfold eLaws; rw [List.length_map]; exact Nat.le_trans (List.length_filter_le ..) (by rw [List.length_range]; exact h40)
  have e2 : (zLaws m).length ≤ 40 := by unfold zLaws; rw [List.length_map]; exact Nat.le_trans (List.length_filter_le ..) (by rw [List.length_range]; exact h40)
  simp only [six, List.mem_cons, List.not_mem_nil, or_false] at hz
  rcases hz with rfl | rfl | rfl | rfl | rfl | rfl <;> rw [List.length_map] <;> omega
theorem eLaws_due (m : Md) (P : Str → Bool) (Q : Lw → Bool) (h : ∀ z, P z.kind = Q z) : ((List.range (m.2.map Lw.kind).length).filter fun i => P ((m.2.map Lw.kind).getD i "")) = (List.range m.2.length).filter fun i => Q (m.2.getD i default) := by
  rw [List.length_map]
  refine List.filter_congr fun i hi => ?_
  have hi := List.mem_range.mp hi
  rw [List.getD_eq_getElem?_getD, List.getElem?_map, List.getD_eq_getElem?_getD, List.getElem?_eq_getElem hi]
  exact h _
theorem sh_all {n : Nat} : ∀ {ds : List PyData}, (∀ d ∈ ds, d.canLay0 = true ∧ d.depth ≤ n) → PyData.canLayAll0 ds = true ∧ PyData.depthAll ds ≤ n
  | [], _ => ⟨rfl, Nat.zero_le _⟩
  | d :: ds, h => by
    obtain ⟨h1, h2⟩ := sh_all fun x hx => h x (List.mem_cons_of_mem _ hx)
    obtain ⟨h3, h4⟩ := h d (List.mem_cons_self ..)
    exact ⟨by show (d.canLay0 && PyData.canLayAll0 ds) = true; rw [h1, h3]; rfl, by show max d.depth (PyData.depthAll ds) ≤ n; omega⟩
theorem of_shaped {d : PyData} (h : SeqAt.shaped d = true) : d.canLay0 = true ∧ d.depth ≤ 64 := by
  unfold SeqAt.shaped at h
  simpa using h
theorem told_sh {m : Md} (h : MdTx m) : SeqAt.shaped (eL (fun z => z) (told6L m)) = true := by
  have h1 := (shL (shL (shO shI))).sh (pwrs m)
  have h2 := (shL (shL (shL shI))).sh (exTab m)
  have h3 := (shL (shL shI)).sh (mets m)
  have h4 := (shL shI).sh (eLaws m)
  have h5 := (shL shI).sh (zLaws m)
  have h6 : (eL PyData.str (szOf m)).canLay0 = true ∧ (eL PyData.str (szOf m)).depth ≤ 5 := by
    obtain ⟨q1, q2⟩ := sh_all (n := 4) (ds := (szOf m).map PyData.str) fun d hd => by
      obtain ⟨s, hs, rfl⟩ := List.mem_map.mp hd
      obtain ⟨z, hz, t, ht, rfl⟩ := szOf_mem hs
      exact ⟨((h.2.2.2 z hz).2.2.2.1 t ht).1.2, Nat.zero_le _⟩
    exact ⟨q1, Nat.succ_le_succ q2⟩
  obtain ⟨q1, q2⟩ := sh_all (n := 5) (ds := told6L m) fun d hd => by
    simp only [told6L, List.mem_cons, List.not_mem_nil, or_false] at hd
    rcases hd with rfl | rfl | rfl | rfl | rfl | rfl
    · exact ⟨h1.1, Nat.le_trans h1.2 (by decide)⟩
    · exact ⟨h2.1, Nat.le_trans h2.2 (by decide)⟩
    · exact ⟨h3.1, Nat.le_trans h3.2 (by decide)⟩
    · exact ⟨h4.1, Nat.le_trans h4.2 (by decide)⟩
    · exact ⟨h5.1, Nat.le_trans h5.2 (by decide)⟩
    · exact h6
  unfold SeqAt.shaped
  rw [Bool.and_eq_true, decide_eq_true_eq]
  refine ⟨?_, ?_⟩
  · show PyData.canLayAll0 ((told6L m).map fun z => z) = true
    rw [List.map_id']; exact q1
  · show PyData.depthAll ((told6L m).map fun z => z) + 1 ≤ 64
    rw [List.map_id']; omega
def dueL (m : Md) : List PyData := [eL (eL (eO PyData.int)) (lpwrs m), eL (eL (eL PyData.int)) (ltab m), eL (eL PyData.int) (lmts m),
  eL PyData.int (((List.range (((m.2.map Lw.kind).length : Int)).toNat).filter fun (z : Nat) => decide ((m.2.map Lw.kind).getD ((z : Int)).toNat "" = "exact")).map Nat.cast),
  eL PyData.int (((List.range (((m.2.map Lw.kind).length : Int)).toNat).filter fun (z : Nat) => decide ((m.2.map Lw.kind).getD ((z : Int)).toNat "" = "sized")).map Nat.cast),
  eL PyData.str (lc2V isZ Lw.sts (fun _ _ => true) (fun _ t => t.1) m.2)]
theorem due_eq {m : Md} (h : FitM m) : dueL m = told6L m := by
  unfold dueL told6L
  rw [pwrs_same h, tab_same h, mt_same h]
  have h1 := eLaws_due m (fun s => decide (s = "exact")) isE fun z => rfl
  have h2 := eLaws_due m (fun s => decide (s = "sized")) isZ fun z => rfl
  have e1 : ((List.range (((m.2.map Lw.kind).length : Int)).toNat).filter fun (z : Nat) => decide ((m.2.map Lw.kind).getD ((z : Int)).toNat "" = "exact")) = (List.range m.2.length).filter fun i => isE (m.2.getD i default) := h1
  have e2 : ((List.range (((m.2.map Lw.kind).length : Int)).toNat).filter fun (z : Nat) => decide ((m.2.map Lw.kind).getD ((z : Int)).toNat "" = "sized")) = (List.range m.2.length).filter fun i => isZ (m.2.getD i default) := h2
  rw [e1, e2]; rfl
theorem lcz_succ {zs : List Lw} {i : Nat} {z : Lw} (h : zs[i]? = some z) : lc2V isZ Lw.sts (fun _ _ => true) (fun _ t => t.1) (zs.take (i + 1)) = lc2V isZ Lw.sts (fun _ _ => true) (fun _ t => t.1) (zs.take i) ++ (if isZ z = true then z.sts.map (fun t => t.1) else []) := by
  rw [lc2V_succ h]
  congr 2
  exact congrArg _ (List.filter_eq_self.mpr fun _ _ => rfl)
theorem told6_isl {m : Md} : ∀ z ∈ told6L m, ∃ ds, z = .list ds := fun z hz => by
  simp only [told6L, List.mem_cons, List.not_mem_nil, or_false] at hz
  rcases hz with rfl | rfl | rfl | rfl | rfl | rfl <;> exact ⟨_, rfl⟩
theorem told_refl {m : Md} (h : MdTx m) : PyData.eqv (eL (fun z => z) (told6L m)) (eL (fun z => z) (told6L m)) = true := SeqAt.eqv_refl _ (of_shaped (told_sh h)).1
end W3
namespace W3
open PySem PySem.Spec PyProof.Rows L2 D3
local macro_rules | `(tactic| walk_at "d3") => `(tactic| first | omega | rfl | decide | assumption | (split <;> omega) | (simp only [decide_eq_true_eq, decide_eq_false_iff_not, Bool.not_eq_true', Bool.and_eq_true, Bool.or_eq_false_iff, Bool.not_eq_false', List.length_map] at *; first | omega | assumption))
local macro_rules | `(tactic| walk_at "len") => `(tactic| first | (have hsz := PySem.sizeLine_eq; (try simp only [List.length_cons, List.length_nil, List.length_map, List.length_append, List.length_replicate, List.length_take, List.length_drop, List.length_range] at *); first | omega | (split <;> (try simp only [List.length_map, List.length_nil]) <;> omega)) | decide)
local macro_rules | `(tactic| walk_at "app") => `(tactic| first | (have hsz := PySem.sizeLine_eq; (try simp only [List.length_cons, List.length_nil, List.length_map, List.length_append, List.length_replicate] at *); omega) | decide)
local macro_rules | `(tactic| walk_at "ne") => `(tactic| (intro hnil; subst hnil; simp at *))
local macro_rules | `(tactic| walk_at "ix") => `(tactic| ((try simp only [decide_eq_true_eq, decide_eq_false_iff_not, Bool.not_eq_true', Bool.and_eq_true, Bool.or_eq_false_iff, Bool.not_eq_false', List.length_map, List.length_replicate, List.length_set] at *); omega))
local macro_rules | `(tactic| walk_at "RET") => `(tactic| rfl)
local macro_rules | `(tactic| walk_at "start") => `(tactic| first | rfl | exact own_rep (by omega) | exact dat_int (by omega))
local macro_rules | `(tactic| walk_at "step") => `(tactic| first | rfl | exact dat_int (by omega) | (show Sl.own _ = Sl.own _; rw [iter_succ]; exact congrArg Sl.own setMap))
local macro_rules | `(tactic| walk_at "PRE") => `(tactic| first | assumption | omega | (constructor <;> omega))
local macro_rules | `(tactic| walk_at "hb") => `(tactic| skip)
local macro_rules | `(tactic| walk_at "mul") => `(tactic| assumption)
local macro_rules | `(tactic| walk_at "shape") => `(tactic| first | exact shaped_ints _ | decide)
local macro_rules | `(tactic| walk_at "IFS") => `(tactic| ((try simp only [decide_eq_true_eq, decide_eq_false_iff_not, Bool.not_eq_true', Bool.and_eq_true, Bool.or_eq_false_iff, Bool.not_eq_false', Bool.or_eq_true] at *); first | (simp only [*, if_true, if_false]; done) | (simp [*]; done)))
local macro_rules | `(tactic| walk_at "scal") => `(tactic| simp [List.all_eq_true, scalD])
local macro_rules | `(tactic| walk_at "mulS") => `(tactic| first | exact .inl (by assumption) | exact .inr (by assumption) | (unfold CMul; omega))
local macro_rules | `(tactic| walk_at "trsz") => `(tactic| first | omega | (simp; omega) | (simp; done))
local macro_rules | `(tactic| walk_at "newl") => `(tactic| first | omega | (simp; omega) | (simp; done))
/-! ### trimmed -/
abbrev s_trimmed : Stmt := topS 1
theorem sc_trimmed : FnScope ["numbers", "size"] ["numbers"] (defScope s_trimmed) := ⟨rfl, rfl, rfl, by decide +kernel, rfl, by decide +kernel, by decide +kernel⟩
def R_trimmed (dd : List PyData) (r : RS) : Prop := ∃ (xs : (List Int)), dd = [((eL PyData.int) xs)] ∧ r = .own ((trim xs).map PyData.int)
theorem ok_trimmed {P : Program} {w : World} {K : KF} {mg : Str → Option Value} {base : Heap} {k : Nat} (B : Bt mg) (a : At K mg "trimmed" s_trimmed ["numbers"]) : Def P w K mg base (k + 1) "trimmed" (spD K 1 R_trimmed) := by
  have nd := sc_trimmed.nd
  refine a.def fun f fd F => def_ok F sc_trimmed fun cdv A outer s H E ds r hr hl hR => ?_
  obtain ⟨xs, rfl, rfl⟩ := hR
  show PSs _ _ (tS K [.dat ((eL PyData.int) xs), .no] _)
  refine s_then (s_set 1 nd rfl (e_lenG (enc := PyData.int) B.len (l_e (dv 0 rfl))) rfl) ?_
  refine s_env (env' := [_, _]) rfl ?_
  refine c_while (fun i => [(1, .dat (.int ((xs.length - i : Nat) : Int)))]) (fun i => decide (i < nz xs)) (nz xs) PassesOwn.never ⟨.inr rfl, ⟨.inr (by
          walk_at "start"), trivial⟩⟩ (fun i hi => ?_) ?_ (fun i hi => ?_) (fun i hi => ?_) ?_
  · exact decide_eq_true hi
  · exact decide_eq_false (Nat.lt_irrefl _)
  · refine t_eq (t_w (w_and (c_gt (m := true) (dv 1 rfl) e_int).2 (fun hq => (w_one (c_eqI (m := true) (e_ixI (l_e (dv 0 rfl)) (e_sub (dv 1 rfl) e_int) (by walk_at "ix")) e_int).2)))) ?_
    exact nz_test xs i hi
  · have hz := nz_le xs
    refine s_then (s_set 1 nd rfl (e_sub (dv 1 rfl) e_int) rfl) ?_
    refine s_env (env' := [_, _]) rfl ?_
    refine s_nil ⟨.inr rfl, ⟨.inr (by
            walk_at "step"), trivial⟩⟩
  have hz := nz_le xs
  exact s_last (s_retO (o_listOf B.list (l_o (o_to (enc := PyData.int) (l_e (dv 0 rfl)) (dv 1 rfl) (by walk_at "d3")))) (by walk_at "RET"))
/-! ### _law_draws -/
abbrev s__law_draws : Stmt := topS 15
theorem sc__law_draws : FnScope ["script", "draws", "k", "rest", "turn", "mixed"] ["script"] (defScope s__law_draws) := ⟨rfl, rfl, rfl, by decide +kernel, rfl, by decide +kernel, by decide +kernel⟩
def R__law_draws (ns : List Int) (r : RS) : Prop := r = .own (dI (draws ns))
theorem ok__law_draws {P : Program} {w : World} {K : KF} {mg : Str → Option Value} {base : Heap} {k : Nat} (B : Bt mg) (a : At K mg "_law_draws" s__law_draws ["script"]) : Def P w K mg base (k + 1) "_law_draws" (spScr K R__law_draws) := by
  have nd := sc__law_draws.nd
  refine a.def fun f fd F => def_scr F sc__law_draws rfl fun cdv A outer s H E ns r hr hR => ?_
  have hR : r = _ := hR
  subst hR
  show PSs _ _ (tS K [.scr ns, .no, .no, .no, .no, .no] _)
  refine s_then (s_setO 1 nd rfl o_nil rfl) ?_
  refine s_env (env' := [_, _, _, _, _, _]) rfl ?_
  refine c_forR (j := 2) (fun i => [(3, .no), (4, .no), (5, .no), (1, .own (dI (iter (dstep ns) [] i))), (2, .no)]) PassesOwn.never B.range (e_min2 B.min e_int (e_lenScrD 0 B.len rfl)) (by walk_at "d3") nd rfl ⟨.inr rfl, ⟨.inr (by
          walk_at "start"), ⟨.inl rfl, ⟨.inl rfl, ⟨.inl rfl, ⟨.inl rfl, trivial⟩⟩⟩⟩⟩⟩ (fun i1 hi1 => ?_) ?_
  · have h63 : i1 < 63 ∧ i1 < ns.length := by split at hi1 <;> omega
    have hl1 := ds_len ns i1
    refine s_env (env' := [_, _, _, _, _, _]) rfl ?_
    refine s_then (s_set 3 nd rfl (e_abs B.abs (e_ixScrD 0 rfl (dv 2 rfl) (by walk_at "d3"))) rfl) ?_
    refine s_env (env' := [_, _, _, _, _, _]) rfl ?_
    refine s_fork (s_if (c_ge (m := true) (dv 3 rfl) (e_pow e_int e_int (by walk_at "d3"))).2 (fun hb47 => ?_) (fun hb47 => ?_))
    · walk_at "hb"
      refine c_forR (j := 4) (fun i => [(3, .dat (.int (iter dg (iter (dstep ns) [] i1, absI (ns.getD i1 0)) i).2)), (1, .own (dI (iter dg (iter (dstep ns) [] i1, absI (ns.getD i1 0)) i).1)), (4, .no)]) PassesOwn.never B.range e_int (by walk_at "d3") nd rfl ⟨.inr rfl, ⟨.inr (by
              walk_at "start"), ⟨.inr rfl, ⟨.inr (by
              walk_at "start"), ⟨.inl rfl, ⟨.inr rfl, trivial⟩⟩⟩⟩⟩⟩ (fun i2 hi2 => ?_) ?_
      · have hl2 := dg_len (iter (dstep ns) [] i1, absI (ns.getD i1 0)) i2
        simp only at hl2
        refine s_env (env' := [_, _, _, _, _, _]) rfl ?_
        refine s_fork (s_if (c_gt (m := true) (dv 3 rfl) e_int).2 (fun hb49 => ?_) (fun hb49 => ?_))
        · walk_at "hb"
          refine s_then (s_appG (enc := PyData.int) 1 rfl (e_mod (e_intI B.int (dv 3 rfl)) e_int (by walk_at "d3")) (by walk_at "app") rfl) ?_
          refine s_env (env' := [_, _, _, _, _, _]) rfl ?_
          refine s_then (s_set 3 nd rfl (e_fdiv (dv 3 rfl) e_int (by walk_at "d3")) rfl) ?_
          refine s_env (env' := [_, _, _, _, _, _]) rfl ?_
          refine s_nil ?_
          refine s_nil ⟨.inr rfl, ⟨.inr (by
                  rw [iter_succ, dg]
                  simp only [decide_eq_true_eq, decide_eq_false_iff_not] at hb49
                  first | (rw [if_pos hb49]; done) | (rw [if_neg hb49]; done) | (rw [if_pos hb49]; rfl)), ⟨.inr rfl, ⟨.inr (by
                  rw [iter_succ, dg]
                  simp only [decide_eq_true_eq, decide_eq_false_iff_not] at hb49
                  first | (rw [if_pos hb49]; done) | (rw [if_neg hb49]; done) | (rw [if_pos hb49]; rfl)), ⟨.inl rfl, ⟨.inr rfl, trivial⟩⟩⟩⟩⟩⟩
        · walk_at "hb"
          refine s_nil ?_
          refine s_nil ⟨.inr rfl, ⟨.inr (by
                  rw [iter_succ, dg]
                  simp only [decide_eq_true_eq, decide_eq_false_iff_not] at hb49
                  first | (rw [if_pos hb49]; done) | (rw [if_neg hb49]; done) | (rw [if_pos hb49]; rfl)), ⟨.inr rfl, ⟨.inr (by
                  rw [iter_succ, dg]
                  simp only [decide_eq_true_eq, decide_eq_false_iff_not] at hb49
                  first | (rw [if_pos hb49]; done) | (rw [if_neg hb49]; done) | (rw [if_pos hb49]; rfl)), ⟨.inl rfl, ⟨.inr rfl, trivial⟩⟩⟩⟩⟩⟩
      refine s_env (env' := [_, _, _, _, _, _]) rfl ?_
      refine s_nil ?_
      refine s_nil ⟨.inr rfl, ⟨.inr (by
              rw [iter_succ, dstep]
              simp only [decide_eq_true_eq, decide_eq_false_iff_not] at hb47
              first | (rw [if_pos (show 10 ^ (18 : Int).toNat ≤ absI (ns.getD i1 0) from hb47)]; rfl) | (rw [if_neg (show ¬ 10 ^ (18 : Int).toNat ≤ absI (ns.getD i1 0) from hb47)]; rfl)), ⟨.inl rfl, ⟨.inl rfl, ⟨.inl rfl, ⟨.inl rfl, trivial⟩⟩⟩⟩⟩⟩
    · walk_at "hb"
      refine s_then (s_set 5 nd rfl (e_mod (e_intI B.int (e_add (e_mulS (dv 3 rfl) e_int (by walk_at "mulS")) (e_mulS (e_add (dv 2 rfl) e_int) e_int (by walk_at "mulS")))) e_int (by walk_at "d3")) rfl) ?_
      refine s_env (env' := [_, _, _, _, _, _]) rfl ?_
      refine s_then (s_set 5 nd rfl (e_mod (e_intI B.int (e_add (e_add (e_mulS (dv 5 rfl) e_int (by walk_at "mulS")) (e_mulS e_int (dv 2 rfl) (by walk_at "mulS"))) e_int)) e_int (by walk_at "d3")) rfl) ?_
      refine s_env (env' := [_, _, _, _, _, _]) rfl ?_
      refine s_then (s_appG (enc := PyData.int) 1 rfl (e_mod (e_intI B.int (dv 5 rfl)) e_int (by walk_at "d3")) (by walk_at "app") rfl) ?_
      refine s_env (env' := [_, _, _, _, _, _]) rfl ?_
      refine s_then (s_appG (enc := PyData.int) 1 rfl (e_mod (e_intI B.int (e_fdiv (dv 5 rfl) e_int (by walk_at "d3"))) e_int (by walk_at "d3")) (by walk_at "app") rfl) ?_
      refine s_env (env' := [_, _, _, _, _, _]) rfl ?_
      refine s_nil ?_
      refine s_nil ⟨.inr rfl, ⟨.inr (by
              rw [iter_succ, dstep]
              simp only [decide_eq_true_eq, decide_eq_false_iff_not] at hb47
              first | (rw [if_pos (show 10 ^ (18 : Int).toNat ≤ absI (ns.getD i1 0) from hb47)]; rfl) | (rw [if_neg (show ¬ 10 ^ (18 : Int).toNat ≤ absI (ns.getD i1 0) from hb47)]; rfl)), ⟨.inl rfl, ⟨.inl rfl, ⟨.inl rfl, ⟨.inl rfl, trivial⟩⟩⟩⟩⟩⟩
  refine s_env (env' := [_, _, _, _, _, _]) rfl ?_
  exact s_last (s_retV 1 rfl (by first | exact .inl rfl | exact .inr (.inl rfl)) rfl (by walk_at "RET"))
/-! ### _law_at -/
abbrev s__law_at : Stmt := topS 16
theorem sc__law_at : FnScope ["draws", "k", "many"] ["draws", "k", "many"] (defScope s__law_at) := ⟨rfl, rfl, rfl, by decide +kernel, rfl, by decide +kernel, by decide +kernel⟩
def R__law_at (dd : List PyData) (r : RS) : Prop := ∃ (ds : (List Int)) (u : Int) (v : Int), dd = [((eL PyData.int) ds), (.int u), (.int v)] ∧ (0 ≤ u ∧ 0 < v) ∧ r = .dat (.int (lawAt ds u v))
theorem ok__law_at {P : Program} {w : World} {K : KF} {mg : Str → Option Value} {base : Heap} {k : Nat} (B : Bt mg) (a : At K mg "_law_at" s__law_at ["draws", "k", "many"]) : Def P w K mg base (k + 1) "_law_at" (spD K 3 R__law_at) := by
  have nd := sc__law_at.nd
  refine a.def fun f fd F => def_ok F sc__law_at fun cdv A outer s H E ds r hr hl hR => ?_
  obtain ⟨ds, u, v, rfl, hp1, rfl⟩ := hR
  show PSs _ _ (tS K [.dat ((eL PyData.int) ds), .dat (.int u), .dat (.int v)] _)
  refine s_fork (s_if (c_lt (m := true) (dv 1 rfl) (e_lenG (enc := PyData.int) B.len (l_e (dv 0 rfl)))).2 (fun hb59 => ?_) (fun hb59 => ?_))
  · walk_at "hb"
    exact s_last (s_ret (e_mod (e_intI B.int (e_ixI (l_e (dv 0 rfl)) (dv 1 rfl) (by walk_at "ix"))) (dv 2 rfl) (by walk_at "d3")) (by
            simp_all [lawAt]))
  · walk_at "hb"
    refine s_nil ?_
    exact s_last (s_ret e_int (by
            simp_all [lawAt]))
/-! ### _law_name -/
abbrev s__law_name : Stmt := topS 17
theorem sc__law_name : FnScope ["draws", "k", "cell", "letters", "word"] ["draws", "k"] (defScope s__law_name) := ⟨rfl, rfl, rfl, by decide +kernel, rfl, by decide +kernel, by decide +kernel⟩
def R__law_name (dd : List PyData) (r : RS) : Prop := ∃ (ds : (List Int)) (u : Int), dd = [((eL PyData.int) ds), (.int u)] ∧ (0 ≤ u) ∧ r = .dat (.str (lname ds u))
theorem ok__law_name {P : Program} {w : World} {K : KF} {mg : Str → Option Value} {base : Heap} {k : Nat} (B : Bt mg) (D__law_at : Def P w K mg base k "_law_at" (spD K 3 R__law_at)) (a : At K mg "_law_name" s__law_name ["draws", "k"]) : Def P w K mg base (k + 1) "_law_name" (spD K 2 R__law_name) := by
  have nd := sc__law_name.nd
  refine a.def fun f fd F => def_ok F sc__law_name fun cdv A outer s H E ds r hr hl hR => ?_
  obtain ⟨ds, u, rfl, hp1, rfl⟩ := hR
  have hc := lawAt_bd ds u 60000 (by decide)
  show PSs _ _ (tS K [.dat ((eL PyData.int) ds), .dat (.int u), .no, .no, .no] _)
  refine s_then (s_set 2 nd rfl (e_call D__law_at hr (a_cons (m := true) (dv 0 rfl) (a_cons (m := true) (dv 1 rfl) (a_cons (m := true) e_int (a_nil (m := true))))) rfl ⟨_, _, _, rfl, (by
          first | omega | decide), rfl⟩) rfl) ?_
  refine s_env (env' := [_, _, _, _, _]) rfl ?_
  show PSs _ _ (tS K (_ :: _ :: .dat (.int (lawAt ds u 60000)) :: _) _)
  generalize hcc : lawAt ds u 60000 = c at *
  have h0 := nmW0_tx c
  have h1 := nmW1_tx c
  refine s_then (s_set 3 nd rfl e_str rfl) ?_
  refine s_env (env' := [_, _, _, _, _]) rfl ?_
  refine s_then (s_set 4 nd rfl (e_addS (by
          first
          | omega
          | (have h9 := (tx_ch lett_tx (c % 26)).1; have h8 := (tx_mul (k := 2) (n := c / 312 % 3) (tx_ch digw_tx (c / 26 % 12)) (by omega)).1; rw [PySem.sizeLine_eq]; exact Nat.le_trans (Nat.add_le_add h9 h8) (by decide))
          | (have h9 := h0.1; rw [PySem.sizeLine_eq]; exact Nat.le_trans (Nat.add_le_add_right h9 _) (by decide +kernel))
          | (have h9 := (tx_app (nmW0_tx c) (y := ".") (b := 1) ⟨by decide +kernel, by decide +kernel⟩).1; have h8 := (tx_ch lett_tx (c / 3744 % 26)).1; rw [PySem.sizeLine_eq]; exact Nat.le_trans (Nat.add_le_add h9 h8) (by decide))
          | (have h9 := h1.1; rw [PySem.sizeLine_eq]; omega)
          | (have h9 := h1.1; have h8 := (tx_mul (x := "z") (k := 200) (n := 200 - ((nmW1 c).length : Int)) (a := 1) ⟨by decide +kernel, by decide +kernel⟩ (by omega)).1; rw [PySem.sizeLine_eq]; exact Nat.le_trans (Nat.add_le_add h9 h8) (by decide))
          | skip) (e_chAt (dv 3 rfl) (e_mod (e_intI B.int (dv 2 rfl)) e_int (by
          first | omega | decide)) (by
          first | (show 0 ≤ _ ∧ _ < ((26 : Nat) : Int); omega) | (show 0 ≤ _ ∧ _ < ((12 : Nat) : Int); omega) | omega) (by
          first | (rw [PySem.sizeLine_eq]; decide) | (have h9 := lett_tx.1; rw [PySem.sizeLine_eq]; omega))) (e_repS (e_chAt e_str (e_mod (e_intI B.int (e_fdiv (dv 2 rfl) e_int (by
          first | omega | decide))) e_int (by
          first | omega | decide)) (by
          first | (show 0 ≤ _ ∧ _ < ((26 : Nat) : Int); omega) | (show 0 ≤ _ ∧ _ < ((12 : Nat) : Int); omega) | omega) (by
          first | (rw [PySem.sizeLine_eq]; decide) | (have h9 := lett_tx.1; rw [PySem.sizeLine_eq]; omega))) (e_mod (e_intI B.int (e_fdiv (dv 2 rfl) e_int (by
          first | omega | decide))) e_int (by
          first | omega | decide)) (by
          first | exact ⟨Nat.le_trans (tx_ch digw_tx _).1 (by decide), by omega, by omega⟩ | (have h9 := h1.1; exact ⟨by decide +kernel, by omega, by omega⟩)))) rfl) ?_
  refine s_env (env' := [_, _, _, _, _]) rfl ?_
  show PSs _ _ (tS K (_ :: _ :: _ :: .dat (.str LETT) :: .dat (.str (nmW0 c)) :: _) _)
  refine s_join (fun (w : Str) => [(4, .dat (.str w))]) (fun (w : Str) => w = nmW1 c) (s_if (c_eqI (m := true) (e_mod (e_intI B.int (e_fdiv (dv 2 rfl) e_int (by
          first | omega | decide))) e_int (by
          first | omega | decide)) e_int).2 (fun hb66 => ?_) (fun hb66 => ?_)) (fun w hJ66 => ?_)
  · skip
    refine s_then (s_set 4 nd rfl (e_addS (by
            first
            | omega
            | (have h9 := (tx_ch lett_tx (c % 26)).1; have h8 := (tx_mul (k := 2) (n := c / 312 % 3) (tx_ch digw_tx (c / 26 % 12)) (by omega)).1; rw [PySem.sizeLine_eq]; exact Nat.le_trans (Nat.add_le_add h9 h8) (by decide))
            | (have h9 := h0.1; rw [PySem.sizeLine_eq]; exact Nat.le_trans (Nat.add_le_add_right h9 _) (by decide +kernel))
            | (have h9 := (tx_app (nmW0_tx c) (y := ".") (b := 1) ⟨by decide +kernel, by decide +kernel⟩).1; have h8 := (tx_ch lett_tx (c / 3744 % 26)).1; rw [PySem.sizeLine_eq]; exact Nat.le_trans (Nat.add_le_add h9 h8) (by decide))
            | (have h9 := h1.1; rw [PySem.sizeLine_eq]; omega)
            | (have h9 := h1.1; have h8 := (tx_mul (x := "z") (k := 200) (n := 200 - ((nmW1 c).length : Int)) (a := 1) ⟨by decide +kernel, by decide +kernel⟩ (by omega)).1; rw [PySem.sizeLine_eq]; exact Nat.le_trans (Nat.add_le_add h9 h8) (by decide))
            | skip) (e_addS (by
            first
            | omega
            | (have h9 := (tx_ch lett_tx (c % 26)).1; have h8 := (tx_mul (k := 2) (n := c / 312 % 3) (tx_ch digw_tx (c / 26 % 12)) (by omega)).1; rw [PySem.sizeLine_eq]; exact Nat.le_trans (Nat.add_le_add h9 h8) (by decide))
            | (have h9 := h0.1; rw [PySem.sizeLine_eq]; exact Nat.le_trans (Nat.add_le_add_right h9 _) (by decide +kernel))
            | (have h9 := (tx_app (nmW0_tx c) (y := ".") (b := 1) ⟨by decide +kernel, by decide +kernel⟩).1; have h8 := (tx_ch lett_tx (c / 3744 % 26)).1; rw [PySem.sizeLine_eq]; exact Nat.le_trans (Nat.add_le_add h9 h8) (by decide))
            | (have h9 := h1.1; rw [PySem.sizeLine_eq]; omega)
            | (have h9 := h1.1; have h8 := (tx_mul (x := "z") (k := 200) (n := 200 - ((nmW1 c).length : Int)) (a := 1) ⟨by decide +kernel, by decide +kernel⟩ (by omega)).1; rw [PySem.sizeLine_eq]; exact Nat.le_trans (Nat.add_le_add h9 h8) (by decide))
            | skip) (dv 4 rfl) e_str) (e_chAt (dv 3 rfl) (e_mod (e_intI B.int (e_fdiv (dv 2 rfl) e_int (by
            first | omega | decide))) e_int (by
            first | omega | decide)) (by
            first | (show 0 ≤ _ ∧ _ < ((26 : Nat) : Int); omega) | (show 0 ≤ _ ∧ _ < ((12 : Nat) : Int); omega) | omega) (by
            first | (rw [PySem.sizeLine_eq]; decide) | (have h9 := lett_tx.1; rw [PySem.sizeLine_eq]; omega)))) rfl) ?_
    refine s_env (env' := [_, _, _, _, _]) rfl ?_
    refine s_nil ⟨_, (by
          first
          | (unfold nmW1; rw [if_pos (of_decide_eq_true hb66)]; done)
          | (unfold nmW1; rw [if_pos (of_decide_eq_true hb66)]; rfl)
          | (unfold nmW1; rw [if_neg (of_decide_eq_false hb66)]; done)
          | (unfold nmW1; rw [if_neg (of_decide_eq_false hb66)]; rfl)), ⟨.inr rfl, ⟨.inr rfl, ⟨.inr rfl, ⟨.inr rfl, ⟨.inr rfl, trivial⟩⟩⟩⟩⟩⟩
  · skip
    refine s_nil ⟨_, (by
          first
          | (unfold nmW1; rw [if_pos (of_decide_eq_true hb66)]; done)
          | (unfold nmW1; rw [if_pos (of_decide_eq_true hb66)]; rfl)
          | (unfold nmW1; rw [if_neg (of_decide_eq_false hb66)]; done)
          | (unfold nmW1; rw [if_neg (of_decide_eq_false hb66)]; rfl)), ⟨.inr rfl, ⟨.inr rfl, ⟨.inr rfl, ⟨.inr rfl, ⟨.inr rfl, trivial⟩⟩⟩⟩⟩⟩
  refine s_env (env' := [_, _, _, _, _]) rfl ?_
  subst hJ66
  refine s_join (fun (w : Str) => [(4, .dat (.str w))]) (fun (w : Str) => w = nmW c) (s_if (c_eqI (m := true) (e_mod (e_intI B.int (e_fdiv (dv 2 rfl) e_int (by
          first | omega | decide))) e_int (by
          first | omega | decide)) e_int).2 (fun hb68 => ?_) (fun hb68 => ?_)) (fun w hJ68 => ?_)
  · skip
    refine s_then (s_set 4 nd rfl (e_addS (by
            first
            | omega
            | (have h9 := (tx_ch lett_tx (c % 26)).1; have h8 := (tx_mul (k := 2) (n := c / 312 % 3) (tx_ch digw_tx (c / 26 % 12)) (by omega)).1; rw [PySem.sizeLine_eq]; exact Nat.le_trans (Nat.add_le_add h9 h8) (by decide))
            | (have h9 := h0.1; rw [PySem.sizeLine_eq]; exact Nat.le_trans (Nat.add_le_add_right h9 _) (by decide +kernel))
            | (have h9 := (tx_app (nmW0_tx c) (y := ".") (b := 1) ⟨by decide +kernel, by decide +kernel⟩).1; have h8 := (tx_ch lett_tx (c / 3744 % 26)).1; rw [PySem.sizeLine_eq]; exact Nat.le_trans (Nat.add_le_add h9 h8) (by decide))
            | (have h9 := h1.1; rw [PySem.sizeLine_eq]; omega)
            | (have h9 := h1.1; have h8 := (tx_mul (x := "z") (k := 200) (n := 200 - ((nmW1 c).length : Int)) (a := 1) ⟨by decide +kernel, by decide +kernel⟩ (by omega)).1; rw [PySem.sizeLine_eq]; exact Nat.le_trans (Nat.add_le_add h9 h8) (by decide))
            | skip) (dv 4 rfl) (e_repS e_str (e_sub e_int (e_lenS B.len (by
            first
            | omega
            | (have h9 := (tx_ch lett_tx (c % 26)).1; have h8 := (tx_mul (k := 2) (n := c / 312 % 3) (tx_ch digw_tx (c / 26 % 12)) (by omega)).1; rw [PySem.sizeLine_eq]; exact Nat.le_trans (Nat.add_le_add h9 h8) (by decide))
            | (have h9 := h0.1; rw [PySem.sizeLine_eq]; exact Nat.le_trans (Nat.add_le_add_right h9 _) (by decide +kernel))
            | (have h9 := (tx_app (nmW0_tx c) (y := ".") (b := 1) ⟨by decide +kernel, by decide +kernel⟩).1; have h8 := (tx_ch lett_tx (c / 3744 % 26)).1; rw [PySem.sizeLine_eq]; exact Nat.le_trans (Nat.add_le_add h9 h8) (by decide))
            | (have h9 := h1.1; rw [PySem.sizeLine_eq]; omega)
            | (have h9 := h1.1; have h8 := (tx_mul (x := "z") (k := 200) (n := 200 - ((nmW1 c).length : Int)) (a := 1) ⟨by decide +kernel, by decide +kernel⟩ (by omega)).1; rw [PySem.sizeLine_eq]; exact Nat.le_trans (Nat.add_le_add h9 h8) (by decide))
            | skip) (dv 4 rfl))) (by
            first | exact ⟨Nat.le_trans (tx_ch digw_tx _).1 (by decide), by omega, by omega⟩ | (have h9 := h1.1; exact ⟨by decide +kernel, by omega, by omega⟩)))) rfl) ?_
    refine s_env (env' := [_, _, _, _, _]) rfl ?_
    refine s_nil ⟨_, (by
          first
          | (unfold nmW; rw [if_pos (of_decide_eq_true hb68)]; done)
          | (unfold nmW; rw [if_pos (of_decide_eq_true hb68)]; rfl)
          | (unfold nmW; rw [if_neg (of_decide_eq_false hb68)]; done)
          | (unfold nmW; rw [if_neg (of_decide_eq_false hb68)]; rfl)), ⟨.inr rfl, ⟨.inr rfl, ⟨.inr rfl, ⟨.inr rfl, ⟨.inr rfl, trivial⟩⟩⟩⟩⟩⟩
  · skip
    refine s_nil ⟨_, (by
          first
          | (unfold nmW; rw [if_pos (of_decide_eq_true hb68)]; done)
          | (unfold nmW; rw [if_pos (of_decide_eq_true hb68)]; rfl)
          | (unfold nmW; rw [if_neg (of_decide_eq_false hb68)]; done)
          | (unfold nmW; rw [if_neg (of_decide_eq_false hb68)]; rfl)), ⟨.inr rfl, ⟨.inr rfl, ⟨.inr rfl, ⟨.inr rfl, ⟨.inr rfl, trivial⟩⟩⟩⟩⟩⟩
  refine s_env (env' := [_, _, _, _, _]) rfl ?_
  subst hJ68
  exact s_last (s_ret (dv 4 rfl) (by
          unfold lname; rw [hcc]))
/-! ### _law_quantities -/
abbrev s__law_quantities : Stmt := topS 18
theorem sc__law_quantities : FnScope ["draws", "k", "many", "names", "turn", "name"] ["draws", "k", "many"] (defScope s__law_quantities) := ⟨rfl, rfl, rfl, by decide +kernel, rfl, by decide +kernel, by decide +kernel⟩
def R__law_quantities (dd : List PyData) (r : RS) : Prop := ∃ (ds : (List Int)) (u : Int) (v : Int), dd = [((eL PyData.int) ds), (.int u), (.int v)] ∧ (0 ≤ u ∧ 0 ≤ v ∧ v ≤ 1000) ∧ r = .own ((lquant ds u v).map PyData.str)
theorem ok__law_quantities {P : Program} {w : World} {K : KF} {mg : Str → Option Value} {base : Heap} {k : Nat} (B : Bt mg) (D__law_name : Def P w K mg base k "_law_name" (spD K 2 R__law_name)) (a : At K mg "_law_quantities" s__law_quantities ["draws", "k", "many"]) : Def P w K mg base (k + 1) "_law_quantities" (spD K 3 R__law_quantities) := by
  have nd := sc__law_quantities.nd
  refine a.def fun f fd F => def_ok F sc__law_quantities fun cdv A outer s H E ds r hr hl hR => ?_
  obtain ⟨ds, u, v, rfl, hp1, rfl⟩ := hR
  show PSs _ _ (tS K [.dat ((eL PyData.int) ds), .dat (.int u), .dat (.int v), .no, .no, .no] _)
  refine s_then (s_setO 3 nd rfl (o_nilG (enc := PyData.str)) rfl) ?_
  refine s_env (env' := [_, _, _, _, _, _]) rfl ?_
  refine c_forR (j := 4) (fun i => [(5, .no), (3, .own ((iter (lqn ds u) [] i).map PyData.str)), (4, .no)]) PassesOwn.never B.range (dv 2 rfl) (by
          first | omega | decide) nd rfl ⟨.inr rfl, ⟨.inr rfl, ⟨.inr rfl, ⟨.inr (by
          walk_at "start"), ⟨.inl rfl, ⟨.inl rfl, trivial⟩⟩⟩⟩⟩⟩ (fun i1 hi1 => ?_) ?_
  · have hi : i1 < 1000 := by omega
    obtain ⟨hnl, hnt⟩ := lq_tx ds u i1 (by omega)
    have hnm : Tx 200 (lname ds (u + i1)) := nmW_tx _
    refine s_env (env' := [_, _, _, _, _, _]) rfl ?_
    refine s_then (s_set 5 nd rfl (e_call D__law_name hr (a_cons (m := true) (dv 0 rfl) (a_cons (m := true) (e_add (dv 1 rfl) (dv 4 rfl)) (a_nil (m := true)))) rfl ⟨_, _, rfl, (by
            first | omega | decide), rfl⟩) rfl) ?_
    refine s_env (env' := [_, _, _, _, _, _]) rfl ?_
    show PSs _ _ (tS K (_ :: _ :: _ :: _ :: _ :: .dat (.str (lname ds (u + i1))) :: _) _)
    refine s_join (fun (w : Str) => [(5, .dat (.str w))]) (fun (w : Str) => w = lqw ds u i1 (iter (lqn ds u) [] i1)) (s_if (t_w (w_or (c_inG (m := true) (enc := PyData.str) (m1 := true) (m2 := false) eqS (hu65 hr) (dv 5 rfl) (e_l (ov 3 rfl)) (by
            first | exact tx_sh hnm | exact txs_sh hnt) (by
            first | exact tx_sh hnm | exact txs_sh hnt)).2 (fun hq => (w_one (t_w (w_and (c_gt (m := true) (e_lenS B.len (by
            first | (have h9 := hnm.1; rw [PySem.sizeLine_eq]; omega) | (have h9 := (tx_int (k := 10) (i := (i1 : Int)) (by decide) (Sm.of (b := 1000) (by omega) (by decide))).1; rw [PySem.sizeLine_eq]; exact Nat.le_trans (Nat.add_le_add_left h9 _) (by decide +kernel)) | omega | skip) (dv 5 rfl)) e_int).2 (fun hq => (w_one (c_gt (m := true) (dv 4 rfl) e_int).2)))))))) (fun hb75 => ?_) (fun hb75 => ?_)) (fun w hJ75 => ?_)
    · skip
      refine s_then (s_set 5 nd rfl (e_addS (by
              first | (have h9 := hnm.1; rw [PySem.sizeLine_eq]; omega) | (have h9 := (tx_int (k := 10) (i := (i1 : Int)) (by decide) (Sm.of (b := 1000) (by omega) (by decide))).1; rw [PySem.sizeLine_eq]; exact Nat.le_trans (Nat.add_le_add_left h9 _) (by decide +kernel)) | omega | skip) e_str (e_strI B.str (dv 4 rfl) (by
              exact PySem.Flt.log2_lt_of (by decide) (Sm.of (n := 1920) (b := 1000) (by omega) (by decide)) ))) rfl) ?_
      refine s_env (env' := [_, _, _, _, _, _]) rfl ?_
      refine s_nil ⟨_, (by
            first
            | (unfold lqw; rw [if_pos (by simpa using hb75)]; done)
            | (unfold lqw; rw [if_pos (by simpa using hb75)]; rfl)
            | (unfold lqw; rw [if_neg (by simpa using hb75)]; done)
            | (unfold lqw; rw [if_neg (by simpa using hb75)]; rfl)), ⟨.inr rfl, ⟨.inr rfl, ⟨.inr rfl, ⟨.inr rfl, ⟨.inr rfl, ⟨.inr rfl, trivial⟩⟩⟩⟩⟩⟩⟩
    · skip
      refine s_nil ⟨_, (by
            first
            | (unfold lqw; rw [if_pos (by simpa using hb75)]; done)
            | (unfold lqw; rw [if_pos (by simpa using hb75)]; rfl)
            | (unfold lqw; rw [if_neg (by simpa using hb75)]; done)
            | (unfold lqw; rw [if_neg (by simpa using hb75)]; rfl)), ⟨.inr rfl, ⟨.inr rfl, ⟨.inr rfl, ⟨.inr rfl, ⟨.inr rfl, ⟨.inr rfl, trivial⟩⟩⟩⟩⟩⟩⟩
    refine s_env (env' := [_, _, _, _, _, _]) rfl ?_
    subst hJ75
    refine s_then (s_appG (enc := PyData.str) 3 rfl (dv 5 rfl) (by
            rw [PySem.sizeLine_eq]; (try rw [List.length_map]); omega) rfl) ?_
    refine s_env (env' := [_, _, _, _, _, _]) rfl ?_
    refine s_nil ⟨.inr rfl, ⟨.inr rfl, ⟨.inr rfl, ⟨.inr (by
            rw [iter_succ, lqn]; try rfl), ⟨.inl rfl, ⟨.inl rfl, trivial⟩⟩⟩⟩⟩⟩
  refine s_env (env' := [_, _, _, _, _, _]) rfl ?_
  exact s_last (s_retV 3 rfl (by first | exact .inl rfl | exact .inr (.inl rfl)) rfl (by
          rfl))
/-! ### _law_places -/
abbrev s__law_places : Stmt := topS 19
theorem sc__law_places : FnScope ["draws", "k", "many", "size", "places", "turn", "cell", "place"] ["draws", "k", "many", "size"] (defScope s__law_places) := ⟨rfl, rfl, rfl, by decide +kernel, rfl, by decide +kernel, by decide +kernel⟩
def R__law_places (dd : List PyData) (r : RS) : Prop := ∃ (ds : (List Int)) (u : Int) (v : Int) (n : Int), dd = [((eL PyData.int) ds), (.int u), (.int v), (.int n)] ∧ (0 ≤ u ∧ 0 < v ∧ v ≤ 1000 ∧ 0 ≤ n ∧ n ≤ 1000) ∧ r = .own ((lplaces ds u v n).map (eT2 PyData.int PyData.int))
theorem ok__law_places {P : Program} {w : World} {K : KF} {mg : Str → Option Value} {base : Heap} {k : Nat} (B : Bt mg) (D__law_at : Def P w K mg base k "_law_at" (spD K 3 R__law_at)) (a : At K mg "_law_places" s__law_places ["draws", "k", "many", "size"]) : Def P w K mg base (k + 1) "_law_places" (spD K 4 R__law_places) := by
  have nd := sc__law_places.nd
  refine a.def fun f fd F => def_ok F sc__law_places fun cdv A outer s H E ds r hr hl hR => ?_
  obtain ⟨ds, u, v, n, rfl, hp1, rfl⟩ := hR
  show PSs _ _ (tS K [.dat ((eL PyData.int) ds), .dat (.int u), .dat (.int v), .dat (.int n), .no, .no, .no, .no] _)
  refine s_then (s_setO 4 nd rfl (o_nilG (enc := (eT2 PyData.int PyData.int))) rfl) ?_
  refine s_env (env' := [_, _, _, _, _, _, _, _]) rfl ?_
  refine c_forR (j := 5) (fun i => [(6, .no), (7, .no), (4, .own ((iter (lps ds u v) [] i).map (eT2 PyData.int PyData.int))), (5, .no)]) PassesOwn.never B.range (dv 3 rfl) (by
          first | omega | decide) nd rfl ⟨.inr rfl, ⟨.inr rfl, ⟨.inr rfl, ⟨.inr rfl, ⟨.inr (by
          walk_at "start"), ⟨.inl rfl, ⟨.inl rfl, ⟨.inl rfl, trivial⟩⟩⟩⟩⟩⟩⟩⟩ (fun i1 hi1 => ?_) ?_
  · obtain ⟨hpl, hpo⟩ := lps_ok ds u (show 0 < v by omega) i1
    refine s_env (env' := [_, _, _, _, _, _, _, _]) rfl ?_
    refine s_then (s_set 6 nd rfl (e_call D__law_at hr (a_cons (m := true) (dv 0 rfl) (a_cons (m := true) (e_add (dv 1 rfl) (dv 5 rfl)) (a_cons (m := true) e_int (a_nil (m := true))))) rfl ⟨_, _, _, rfl, (by
            first | omega | decide), rfl⟩) rfl) ?_
    refine s_env (env' := [_, _, _, _, _, _, _, _]) rfl ?_
    refine s_then (s_set 7 nd rfl (e_tup2 (f := PyData.int) (g := PyData.int) (e_mod (e_intI B.int (dv 6 rfl)) e_int (by
            first | omega | decide)) (e_mod (e_intI B.int (e_fdiv (dv 6 rfl) e_int (by
            first | omega | decide))) (dv 2 rfl) (by
            first | omega | decide))) rfl) ?_
    refine s_env (env' := [_, _, _, _, _, _, _, _]) rfl ?_
    show PSs _ _ (tS K (_ :: _ :: _ :: _ :: _ :: _ :: _ :: .dat (eT2 PyData.int PyData.int (lpl ds u v i1)) :: _) _)
    refine s_fork (s_if (c_notInG (m := true) (enc := (eT2 PyData.int PyData.int)) (m1 := true) (m2 := false) (eqT2 eqI eqI) (hu65 hr) (dv 7 rfl) (e_l (ov 4 rfl)) (by
            first | exact ShOk.shaped (shT2 shI shI) (by decide) _ | exact ShOk.shaped (shL (shT2 shI shI)) (by decide) _) (by
            first | exact ShOk.shaped (shT2 shI shI) (by decide) _ | exact ShOk.shaped (shL (shT2 shI shI)) (by decide) _)).2 (fun hb84 => ?_) (fun hb84 => ?_))
    · walk_at "hb"
      refine s_then (s_appG (enc := (eT2 PyData.int PyData.int)) 4 rfl (dv 7 rfl) (by
              rw [PySem.sizeLine_eq]; (try rw [List.length_map]); omega) rfl) ?_
      refine s_env (env' := [_, _, _, _, _, _, _, _]) rfl ?_
      refine s_nil ?_
      refine s_nil ⟨.inr rfl, ⟨.inr rfl, ⟨.inr rfl, ⟨.inr rfl, ⟨.inr (by
              rw [iter_succ, lps]
              first | (rw [if_neg (by simpa using hb84)]; done) | (rw [if_neg (by simpa using hb84)]; rfl) | (rw [if_pos (by simpa using hb84)]; done) | (rw [if_pos (by simpa using hb84)]; rfl)), ⟨.inl rfl, ⟨.inl rfl, ⟨.inl rfl, trivial⟩⟩⟩⟩⟩⟩⟩⟩
    · walk_at "hb"
      refine s_nil ?_
      refine s_nil ⟨.inr rfl, ⟨.inr rfl, ⟨.inr rfl, ⟨.inr rfl, ⟨.inr (by
              rw [iter_succ, lps]
              first | (rw [if_neg (by simpa using hb84)]; done) | (rw [if_neg (by simpa using hb84)]; rfl) | (rw [if_pos (by simpa using hb84)]; done) | (rw [if_pos (by simpa using hb84)]; rfl)), ⟨.inl rfl, ⟨.inl rfl, ⟨.inl rfl, trivial⟩⟩⟩⟩⟩⟩⟩⟩
  refine s_env (env' := [_, _, _, _, _, _, _, _]) rfl ?_
  exact s_last (s_retV 4 rfl (by first | exact .inl rfl | exact .inr (.inl rfl)) rfl (by
          rfl))
/-! ### _law_one -/
abbrev s__law_one : Stmt := topS 20
theorem sc__law_one : FnScope ["draws", "k", "many", "number", "source", "size", "places", "terms", "turn", "cell", "value"] ["draws", "k", "many", "number"] (defScope s__law_one) := ⟨rfl, rfl, rfl, by decide +kernel, rfl, by decide +kernel, by decide +kernel⟩
def R__law_one (dd : List PyData) (r : RS) : Prop := ∃ (ds : (List Int)) (u : Int) (v : Int) (n : Int), dd = [((eL PyData.int) ds), (.int u), (.int v), (.int n)] ∧ (0 ≤ u ∧ 0 ≤ v ∧ v ≤ 1000 ∧ 0 ≤ n ∧ n ≤ 1000) ∧ r = .dat (eLw (lone ds u v n))
theorem ok__law_one {P : Program} {w : World} {K : KF} {mg : Str → Option Value} {base : Heap} {k : Nat} (B : Bt mg) (D__law_at : Def P w K mg base k "_law_at" (spD K 3 R__law_at)) (D__law_places : Def P w K mg base k "_law_places" (spD K 4 R__law_places)) (a : At K mg "_law_one" s__law_one ["draws", "k", "many", "number"]) : Def P w K mg base (k + 1) "_law_one" (spD K 4 R__law_one) := by
  have nd := sc__law_one.nd
  refine a.def fun f fd F => def_ok F sc__law_one fun cdv A outer s H E ds r hr hl hR => ?_
  obtain ⟨ds, u, v, n, rfl, hp1, rfl⟩ := hR
  have a4 := lawAt_bd ds u 4 (by decide)
  have b4 := lawAt_bd ds (u + 1) 4 (by decide)
  have hns := tx_int (k := 10) (i := n) (by decide) (Sm.of (b := 1024) (by omega) (by decide))
  show PSs _ _ (tS K [.dat ((eL PyData.int) ds), .dat (.int u), .dat (.int v), .dat (.int n), .no, .no, .no, .no, .no, .no, .no] _)
  refine s_then (s_set 4 nd rfl (e_ixG (enc := PyData.str) "" (l_o (o_list (a_consG (enc := PyData.str) e_str (a_consG (enc := PyData.str) e_str (a_consG (enc := PyData.str) (e_addS (by
          first
          | (rw [PySem.sizeLine_eq]; simp; done)
          | omega
          | (rw [rngZ_len]; omega)
          | (have h9 := hns.1; rw [PySem.sizeLine_eq]; exact Nat.le_trans (Nat.add_le_add_left h9 _) (by decide +kernel))
          | (have h9 := (tx_app (a := 1) (x := "s") ⟨by decide +kernel, by decide +kernel⟩ hns).1; rw [PySem.sizeLine_eq]; exact Nat.le_trans (Nat.add_le_add_right h9 _) (by decide +kernel))
          | (have h9 := (tx_app (tx_app (a := 1) (x := "s") ⟨by decide +kernel, by decide +kernel⟩ hns) (b := 1) (y := ".") ⟨by decide +kernel, by decide +kernel⟩).1; have h8 := (tx_ch (z := "ab") (a := 2) ⟨by decide +kernel, by decide +kernel⟩ (z / 8)).1; rw [PySem.sizeLine_eq]; exact Nat.le_trans (Nat.add_le_add h9 h8) (by decide +kernel))
          | (have hz9 := rngZ_mem hz; have h9 := (tx_app (tx_app (tx_app (a := 1) (x := "s") ⟨by decide +kernel, by decide +kernel⟩ hns) (b := 1) (y := ".") ⟨by decide +kernel, by decide +kernel⟩) (tx_ch (z := "ab") (a := 2) ⟨by decide +kernel, by decide +kernel⟩ (z / 8))).1; have h8 := (tx_int (k := 10) (i := z) (by decide) (Sm.of (b := 1024) (by omega) (by decide))).1; rw [PySem.sizeLine_eq]; exact Nat.le_trans (Nat.add_le_add h9 h8) (by decide +kernel))
          | (walk_at "len")) e_str (e_strI B.str (dv 3 rfl) (by
          first | exact PySem.Flt.log2_lt_of (by decide) (Sm.of (n := 1920) (b := 1024) (by omega) (by decide)) | (have hz9 := rngZ_mem hz; exact PySem.Flt.log2_lt_of (by decide) (Sm.of (n := 1920) (b := 1024) (by omega) (by decide)))))) (a_consG (enc := PyData.str) e_str (a_nilG (enc := PyData.str)))))) (by
          first
          | (rw [PySem.sizeLine_eq]; simp; done)
          | omega
          | (rw [rngZ_len]; omega)
          | (have h9 := hns.1; rw [PySem.sizeLine_eq]; exact Nat.le_trans (Nat.add_le_add_left h9 _) (by decide +kernel))
          | (have h9 := (tx_app (a := 1) (x := "s") ⟨by decide +kernel, by decide +kernel⟩ hns).1; rw [PySem.sizeLine_eq]; exact Nat.le_trans (Nat.add_le_add_right h9 _) (by decide +kernel))
          | (have h9 := (tx_app (tx_app (a := 1) (x := "s") ⟨by decide +kernel, by decide +kernel⟩ hns) (b := 1) (y := ".") ⟨by decide +kernel, by decide +kernel⟩).1; have h8 := (tx_ch (z := "ab") (a := 2) ⟨by decide +kernel, by decide +kernel⟩ (z / 8)).1; rw [PySem.sizeLine_eq]; exact Nat.le_trans (Nat.add_le_add h9 h8) (by decide +kernel))
          | (have hz9 := rngZ_mem hz; have h9 := (tx_app (tx_app (tx_app (a := 1) (x := "s") ⟨by decide +kernel, by decide +kernel⟩ hns) (b := 1) (y := ".") ⟨by decide +kernel, by decide +kernel⟩) (tx_ch (z := "ab") (a := 2) ⟨by decide +kernel, by decide +kernel⟩ (z / 8))).1; have h8 := (tx_int (k := 10) (i := z) (by decide) (Sm.of (b := 1024) (by omega) (by decide))).1; rw [PySem.sizeLine_eq]; exact Nat.le_trans (Nat.add_le_add h9 h8) (by decide +kernel))
          | (walk_at "len")))) (e_call D__law_at hr (a_cons (m := true) (dv 0 rfl) (a_cons (m := true) (dv 1 rfl) (a_cons (m := true) e_int (a_nil (m := true))))) rfl ⟨_, _, _, rfl, (by
          first | omega | exact ⟨by omega, by decide⟩ | (refine ⟨?_, ?_, ?_, ?_, ?_⟩ <;> (first | omega | (have h := of_decide_eq_false hb90; omega)))), rfl⟩) (by
          first | omega | (show 0 ≤ _ ∧ _ < ((4 : Nat) : Int); omega) | (show 0 ≤ _ ∧ _ < ((6 : Nat) : Int); omega) | (have hz9 := rngZ_mem hz; first | omega | (show 0 ≤ _ ∧ _ < ((2 : Nat) : Int); omega)) | (show (0 : Int) ≤ 0 ∧ (0 : Int) < _; omega))) rfl) ?_
  refine s_env (env' := [_, _, _, _, _, _, _, _, _, _, _]) rfl ?_
  show PSs _ _ (tS K (_ :: _ :: _ :: _ :: .dat (.str (lsrc ds u n)) :: _) _)
  refine s_then (s_set 5 nd rfl (e_call D__law_at hr (a_cons (m := true) (dv 0 rfl) (a_cons (m := true) (e_add (dv 1 rfl) e_int) (a_cons (m := true) e_int (a_nil (m := true))))) rfl ⟨_, _, _, rfl, (by
          first | omega | exact ⟨by omega, by decide⟩ | (refine ⟨?_, ?_, ?_, ?_, ?_⟩ <;> (first | omega | (have h := of_decide_eq_false hb90; omega)))), rfl⟩) rfl) ?_
  refine s_env (env' := [_, _, _, _, _, _, _, _, _, _, _]) rfl ?_
  refine s_fork (s_if (c_eqI (m := true) (dv 2 rfl) e_int).2 (fun hb90 => ?_) (fun hb90 => ?_))
  · walk_at "hb"
    exact s_last (s_ret (e_tup3 (f := PyData.str) (g := (eL (eT3 PyData.int PyData.int PyData.int))) (h := PyData.str) e_str (e_o (o_nilG (enc := (eT3 PyData.int PyData.int PyData.int)))) (dv 4 rfl)) (by
            show RS.dat _ = RS.dat (eLw (lone ds u v n))
            unfold lone
            first
            | (rw [if_pos (of_decide_eq_true hb90)]; rfl)
            | (rw [if_neg (of_decide_eq_false hb90), if_pos (of_decide_eq_true hb92)]; rfl)
            | (rw [if_neg (of_decide_eq_false hb90), if_neg (of_decide_eq_false hb92), if_pos (by have h := of_decide_eq_true hb102; exact Int.ofNat.inj h)]; rfl)
            | (rw [if_neg (of_decide_eq_false hb90), if_neg (of_decide_eq_false hb92), if_neg (by have h := of_decide_eq_false hb102; exact fun q => h (congrArg Int.ofNat q))]; rfl)))
  · walk_at "hb"
    refine s_nil ?_
    refine s_fork (s_if (c_eqI (m := true) (e_call D__law_at hr (a_cons (m := true) (dv 0 rfl) (a_cons (m := true) (e_add (dv 1 rfl) e_int) (a_cons (m := true) e_int (a_nil (m := true))))) rfl ⟨_, _, _, rfl, (by
            first | omega | exact ⟨by omega, by decide⟩ | (refine ⟨?_, ?_, ?_, ?_, ?_⟩ <;> (first | omega | (have h := of_decide_eq_false hb90; omega)))), rfl⟩) e_int).2 (fun hb92 => ?_) (fun hb92 => ?_))
    · walk_at "hb"
      refine s_then (s_set 6 nd rfl (e_o (o_call D__law_places hr (a_cons (m := true) (dv 0 rfl) (a_cons (m := true) (e_add (dv 1 rfl) e_int) (a_cons (m := true) (dv 2 rfl) (a_cons (m := true) (dv 5 rfl) (a_nil (m := true)))))) rfl ⟨_, _, _, _, rfl, (by
              first | omega | exact ⟨by omega, by decide⟩ | (refine ⟨?_, ?_, ?_, ?_, ?_⟩ <;> (first | omega | (have h := of_decide_eq_false hb90; omega)))), rfl⟩)) rfl) ?_
      refine s_env (env' := [_, _, _, _, _, _, _, _, _, _, _]) rfl ?_
      have hpl := lps_ok ds (u + 3) (show 0 < v from by have h := of_decide_eq_false hb90; omega) (lawAt ds (u + 1) 4).toNat
      have hpl : (lplaces ds (u + 3) v (lawAt ds (u + 1) 4)).length ≤ (lawAt ds (u + 1) 4).toNat := hpl.1
      refine s_then (s_setO 7 nd rfl (o_nilG (enc := (eT3 PyData.int PyData.int PyData.int))) rfl) ?_
      refine s_env (env' := [_, _, _, _, _, _, _, _, _, _, _]) rfl ?_
      refine c_forRN (j := 8) (fun i => [(9, .no), (10, .no), (7, .own (((List.range i).map (letm ds u (lplaces ds (u + 3) v (lawAt ds (u + 1) 4)))).map (eT3 PyData.int PyData.int PyData.int))), (8, .no)]) PassesOwn.never B.range (e_lenG (enc := (eT2 PyData.int PyData.int)) B.len (l_e (dv 6 rfl))) (by
              first | omega | decide | (have hz9 := rngZ_mem hz; omega)) nd rfl ⟨.inr rfl, ⟨.inr rfl, ⟨.inr rfl, ⟨.inr rfl, ⟨.inr rfl, ⟨.inr rfl, ⟨.inr rfl, ⟨.inr (by
              walk_at "start"), ⟨.inl rfl, ⟨.inl rfl, ⟨.inl rfl, trivial⟩⟩⟩⟩⟩⟩⟩⟩⟩⟩⟩ (fun i1 hi1 => ?_) ?_
      · have hcb := lawAt_bd ds (u + 7 + i1) 60000 (by decide)
        refine s_env (env' := [_, _, _, _, _, _, _, _, _, _, _]) rfl ?_
        refine s_then (s_set 9 nd rfl (e_call D__law_at hr (a_cons (m := true) (dv 0 rfl) (a_cons (m := true) (e_add (e_add (dv 1 rfl) e_int) (dv 8 rfl)) (a_cons (m := true) e_int (a_nil (m := true))))) rfl ⟨_, _, _, rfl, (by
                first | omega | exact ⟨by omega, by decide⟩ | (refine ⟨?_, ?_, ?_, ?_, ?_⟩ <;> (first | omega | (have h := of_decide_eq_false hb90; omega)))), rfl⟩) rfl) ?_
        refine s_env (env' := [_, _, _, _, _, _, _, _, _, _, _]) rfl ?_
        refine s_then (s_set 10 nd rfl (e_ixI (l_o (o_list (a_consG (enc := PyData.int) e_int (a_consG (enc := PyData.int) (e_neg e_int) (a_consG (enc := PyData.int) e_int (a_consG (enc := PyData.int) (e_neg e_int) (a_consG (enc := PyData.int) (e_add e_int (e_intI B.int (e_fdiv (dv 9 rfl) e_int (by
                first | omega | decide | (have hz9 := rngZ_mem hz; omega))))) (a_consG (enc := PyData.int) (e_sub (e_neg e_int) (e_intI B.int (e_fdiv (dv 9 rfl) e_int (by
                first | omega | decide | (have hz9 := rngZ_mem hz; omega))))) (a_nilG (enc := PyData.int)))))))) (by
                first
                | (rw [PySem.sizeLine_eq]; simp; done)
                | omega
                | (rw [rngZ_len]; omega)
                | (have h9 := hns.1; rw [PySem.sizeLine_eq]; exact Nat.le_trans (Nat.add_le_add_left h9 _) (by decide +kernel))
                | (have h9 := (tx_app (a := 1) (x := "s") ⟨by decide +kernel, by decide +kernel⟩ hns).1; rw [PySem.sizeLine_eq]; exact Nat.le_trans (Nat.add_le_add_right h9 _) (by decide +kernel))
                | (have h9 := (tx_app (tx_app (a := 1) (x := "s") ⟨by decide +kernel, by decide +kernel⟩ hns) (b := 1) (y := ".") ⟨by decide +kernel, by decide +kernel⟩).1; have h8 := (tx_ch (z := "ab") (a := 2) ⟨by decide +kernel, by decide +kernel⟩ (z / 8)).1; rw [PySem.sizeLine_eq]; exact Nat.le_trans (Nat.add_le_add h9 h8) (by decide +kernel))
                | (have hz9 := rngZ_mem hz; have h9 := (tx_app (tx_app (tx_app (a := 1) (x := "s") ⟨by decide +kernel, by decide +kernel⟩ hns) (b := 1) (y := ".") ⟨by decide +kernel, by decide +kernel⟩) (tx_ch (z := "ab") (a := 2) ⟨by decide +kernel, by decide +kernel⟩ (z / 8))).1; have h8 := (tx_int (k := 10) (i := z) (by decide) (Sm.of (b := 1024) (by omega) (by decide))).1; rw [PySem.sizeLine_eq]; exact Nat.le_trans (Nat.add_le_add h9 h8) (by decide +kernel))
                | (walk_at "len")))) (e_mod (e_intI B.int (dv 9 rfl)) e_int (by
                first | omega | decide | (have hz9 := rngZ_mem hz; omega))) (by
                first | omega | (show 0 ≤ _ ∧ _ < ((4 : Nat) : Int); omega) | (show 0 ≤ _ ∧ _ < ((6 : Nat) : Int); omega) | (have hz9 := rngZ_mem hz; first | omega | (show 0 ≤ _ ∧ _ < ((2 : Nat) : Int); omega)) | (show (0 : Int) ≤ 0 ∧ (0 : Int) < _; omega))) rfl) ?_
        refine s_env (env' := [_, _, _, _, _, _, _, _, _, _, _]) rfl ?_
        refine s_then (s_appG (enc := (eT3 PyData.int PyData.int PyData.int)) 7 rfl (e_tup3 (f := PyData.int) (g := PyData.int) (h := PyData.int) (dv 10 rfl) (e_ixT (e_ixG (enc := (eT2 PyData.int PyData.int)) (0, 0) (l_e (dv 6 rfl)) (dv 8 rfl) (by
                first | omega | (show 0 ≤ _ ∧ _ < ((4 : Nat) : Int); omega) | (show 0 ≤ _ ∧ _ < ((6 : Nat) : Int); omega) | (have hz9 := rngZ_mem hz; first | omega | (show 0 ≤ _ ∧ _ < ((2 : Nat) : Int); omega)) | (show (0 : Int) ≤ 0 ∧ (0 : Int) < _; omega))) e_int rfl) (e_ixT (e_ixG (enc := (eT2 PyData.int PyData.int)) (0, 0) (l_e (dv 6 rfl)) (dv 8 rfl) (by
                first | omega | (show 0 ≤ _ ∧ _ < ((4 : Nat) : Int); omega) | (show 0 ≤ _ ∧ _ < ((6 : Nat) : Int); omega) | (have hz9 := rngZ_mem hz; first | omega | (show 0 ≤ _ ∧ _ < ((2 : Nat) : Int); omega)) | (show (0 : Int) ≤ 0 ∧ (0 : Int) < _; omega))) e_int rfl)) (by
                rw [PySem.sizeLine_eq]; (try simp only [List.length_map, List.length_range]); omega) rfl) ?_
        refine s_env (env' := [_, _, _, _, _, _, _, _, _, _, _]) rfl ?_
        refine s_nil ⟨.inr rfl, ⟨.inr rfl, ⟨.inr rfl, ⟨.inr rfl, ⟨.inr rfl, ⟨.inr rfl, ⟨.inr rfl, ⟨.inr (by
                have hs : (List.range (i1 + 1)).map (letm ds u (lplaces ds (u + 3) v (lawAt ds (u + 1) 4))) = (List.range i1).map (letm ds u (lplaces ds (u + 3) v (lawAt ds (u + 1) 4))) ++ [letm ds u (lplaces ds (u + 3) v (lawAt ds (u + 1) 4)) i1] := by rw [List.range_succ, List.map_append]; rfl
                rw [hs]; rfl), ⟨.inl rfl, ⟨.inl rfl, ⟨.inl rfl, trivial⟩⟩⟩⟩⟩⟩⟩⟩⟩⟩⟩
      refine s_env (env' := [_, _, _, _, _, _, _, _, _, _, _]) rfl ?_
      refine s_frz (i := 7) rfl ?_
      exact s_last (s_ret (e_tup3 (f := PyData.str) (g := (eL (eT3 PyData.int PyData.int PyData.int))) (h := PyData.str) e_str (dv 7 rfl) (dv 4 rfl)) (by
              show RS.dat _ = RS.dat (eLw (lone ds u v n))
              unfold lone
              first
              | (rw [if_pos (of_decide_eq_true hb90)]; rfl)
              | (rw [if_neg (of_decide_eq_false hb90), if_pos (of_decide_eq_true hb92)]; rfl)
              | (rw [if_neg (of_decide_eq_false hb90), if_neg (of_decide_eq_false hb92), if_pos (by have h := of_decide_eq_true hb102; exact Int.ofNat.inj h)]; rfl)
              | (rw [if_neg (of_decide_eq_false hb90), if_neg (of_decide_eq_false hb92), if_neg (by have h := of_decide_eq_false hb102; exact fun q => h (congrArg Int.ofNat q))]; rfl)))
    · walk_at "hb"
      refine s_nil ?_
      refine s_then (s_set 6 nd rfl (e_o (o_call D__law_places hr (a_cons (m := true) (dv 0 rfl) (a_cons (m := true) (e_add (dv 1 rfl) e_int) (a_cons (m := true) (dv 2 rfl) (a_cons (m := true) (e_add (dv 5 rfl) e_int) (a_nil (m := true)))))) rfl ⟨_, _, _, _, rfl, (by
              first | omega | exact ⟨by omega, by decide⟩ | (refine ⟨?_, ?_, ?_, ?_, ?_⟩ <;> (first | omega | (have h := of_decide_eq_false hb90; omega)))), rfl⟩)) rfl) ?_
      refine s_env (env' := [_, _, _, _, _, _, _, _, _, _, _]) rfl ?_
      have hp2 := lps_ok ds (u + 3) (show 0 < v from by have h := of_decide_eq_false hb90; omega) (lawAt ds (u + 1) 4 + 2).toNat
      have hp2 : (lplaces ds (u + 3) v (lawAt ds (u + 1) 4 + 2)).length ≤ (lawAt ds (u + 1) 4 + 2).toNat := hp2.1
      have hp3 : 0 < (lplaces ds (u + 3) v (lawAt ds (u + 1) 4 + 2)).length := lps_pos _ (by omega)
      refine s_then (s_setLcTA (enc := PyData.int) (encB := (eT3 PyData.str PyData.int PyData.int)) (own := [("turn", 8)]) (g := gName 8) (ix := [8]) (f := (fun z env => (env.set 8 (.dat (.int z))))) 7 nd rfl (i_rngZ B.range e_int (e_lenG (enc := (eT2 PyData.int PyData.int)) B.len (l_e (dv 6 rfl))) (by
              first | omega | decide | (have hz9 := rngZ_mem hz; omega))) (by
              first
              | (rw [PySem.sizeLine_eq]; simp; done)
              | omega
              | (rw [rngZ_len]; omega)
              | (have h9 := hns.1; rw [PySem.sizeLine_eq]; exact Nat.le_trans (Nat.add_le_add_left h9 _) (by decide +kernel))
              | (have h9 := (tx_app (a := 1) (x := "s") ⟨by decide +kernel, by decide +kernel⟩ hns).1; rw [PySem.sizeLine_eq]; exact Nat.le_trans (Nat.add_le_add_right h9 _) (by decide +kernel))
              | (have h9 := (tx_app (tx_app (a := 1) (x := "s") ⟨by decide +kernel, by decide +kernel⟩ hns) (b := 1) (y := ".") ⟨by decide +kernel, by decide +kernel⟩).1; have h8 := (tx_ch (z := "ab") (a := 2) ⟨by decide +kernel, by decide +kernel⟩ (z / 8)).1; rw [PySem.sizeLine_eq]; exact Nat.le_trans (Nat.add_le_add h9 h8) (by decide +kernel))
              | (have hz9 := rngZ_mem hz; have h9 := (tx_app (tx_app (tx_app (a := 1) (x := "s") ⟨by decide +kernel, by decide +kernel⟩ hns) (b := 1) (y := ".") ⟨by decide +kernel, by decide +kernel⟩) (tx_ch (z := "ab") (a := 2) ⟨by decide +kernel, by decide +kernel⟩ (z / 8))).1; have h8 := (tx_int (k := 10) (i := z) (by decide) (Sm.of (b := 1024) (by omega) (by decide))).1; rw [PySem.sizeLine_eq]; exact Nat.le_trans (Nat.add_le_add h9 h8) (by decide +kernel))
              | (walk_at "len")) (by first | (show blkC ["draws", "k", "many", "number", "source", "size", "places", "terms", "turn", "cell", "value"] (defScope s__law_one) _ [("turn", 8)] = true; decide +kernel) | kernel_rfl) (fun s H C cl fp => (pg_name (i := 8) nd rfl (by first | exact .inl rfl | exact .inr rfl))) (fun z hz => asg_name) (by decide) (fun z hz s H C cl fp => (e_tup3 (f := PyData.str) (g := PyData.int) (h := PyData.int) (e_addS (by
              first
              | (rw [PySem.sizeLine_eq]; simp; done)
              | omega
              | (rw [rngZ_len]; omega)
              | (have h9 := hns.1; rw [PySem.sizeLine_eq]; exact Nat.le_trans (Nat.add_le_add_left h9 _) (by decide +kernel))
              | (have h9 := (tx_app (a := 1) (x := "s") ⟨by decide +kernel, by decide +kernel⟩ hns).1; rw [PySem.sizeLine_eq]; exact Nat.le_trans (Nat.add_le_add_right h9 _) (by decide +kernel))
              | (have h9 := (tx_app (tx_app (a := 1) (x := "s") ⟨by decide +kernel, by decide +kernel⟩ hns) (b := 1) (y := ".") ⟨by decide +kernel, by decide +kernel⟩).1; have h8 := (tx_ch (z := "ab") (a := 2) ⟨by decide +kernel, by decide +kernel⟩ (z / 8)).1; rw [PySem.sizeLine_eq]; exact Nat.le_trans (Nat.add_le_add h9 h8) (by decide +kernel))
              | (have hz9 := rngZ_mem hz; have h9 := (tx_app (tx_app (tx_app (a := 1) (x := "s") ⟨by decide +kernel, by decide +kernel⟩ hns) (b := 1) (y := ".") ⟨by decide +kernel, by decide +kernel⟩) (tx_ch (z := "ab") (a := 2) ⟨by decide +kernel, by decide +kernel⟩ (z / 8))).1; have h8 := (tx_int (k := 10) (i := z) (by decide) (Sm.of (b := 1024) (by omega) (by decide))).1; rw [PySem.sizeLine_eq]; exact Nat.le_trans (Nat.add_le_add h9 h8) (by decide +kernel))
              | (walk_at "len")) (e_addS (by
              first
              | (rw [PySem.sizeLine_eq]; simp; done)
              | omega
              | (rw [rngZ_len]; omega)
              | (have h9 := hns.1; rw [PySem.sizeLine_eq]; exact Nat.le_trans (Nat.add_le_add_left h9 _) (by decide +kernel))
              | (have h9 := (tx_app (a := 1) (x := "s") ⟨by decide +kernel, by decide +kernel⟩ hns).1; rw [PySem.sizeLine_eq]; exact Nat.le_trans (Nat.add_le_add_right h9 _) (by decide +kernel))
              | (have h9 := (tx_app (tx_app (a := 1) (x := "s") ⟨by decide +kernel, by decide +kernel⟩ hns) (b := 1) (y := ".") ⟨by decide +kernel, by decide +kernel⟩).1; have h8 := (tx_ch (z := "ab") (a := 2) ⟨by decide +kernel, by decide +kernel⟩ (z / 8)).1; rw [PySem.sizeLine_eq]; exact Nat.le_trans (Nat.add_le_add h9 h8) (by decide +kernel))
              | (have hz9 := rngZ_mem hz; have h9 := (tx_app (tx_app (tx_app (a := 1) (x := "s") ⟨by decide +kernel, by decide +kernel⟩ hns) (b := 1) (y := ".") ⟨by decide +kernel, by decide +kernel⟩) (tx_ch (z := "ab") (a := 2) ⟨by decide +kernel, by decide +kernel⟩ (z / 8))).1; have h8 := (tx_int (k := 10) (i := z) (by decide) (Sm.of (b := 1024) (by omega) (by decide))).1; rw [PySem.sizeLine_eq]; exact Nat.le_trans (Nat.add_le_add h9 h8) (by decide +kernel))
              | (walk_at "len")) (e_addS (by
              first
              | (rw [PySem.sizeLine_eq]; simp; done)
              | omega
              | (rw [rngZ_len]; omega)
              | (have h9 := hns.1; rw [PySem.sizeLine_eq]; exact Nat.le_trans (Nat.add_le_add_left h9 _) (by decide +kernel))
              | (have h9 := (tx_app (a := 1) (x := "s") ⟨by decide +kernel, by decide +kernel⟩ hns).1; rw [PySem.sizeLine_eq]; exact Nat.le_trans (Nat.add_le_add_right h9 _) (by decide +kernel))
              | (have h9 := (tx_app (tx_app (a := 1) (x := "s") ⟨by decide +kernel, by decide +kernel⟩ hns) (b := 1) (y := ".") ⟨by decide +kernel, by decide +kernel⟩).1; have h8 := (tx_ch (z := "ab") (a := 2) ⟨by decide +kernel, by decide +kernel⟩ (z / 8)).1; rw [PySem.sizeLine_eq]; exact Nat.le_trans (Nat.add_le_add h9 h8) (by decide +kernel))
              | (have hz9 := rngZ_mem hz; have h9 := (tx_app (tx_app (tx_app (a := 1) (x := "s") ⟨by decide +kernel, by decide +kernel⟩ hns) (b := 1) (y := ".") ⟨by decide +kernel, by decide +kernel⟩) (tx_ch (z := "ab") (a := 2) ⟨by decide +kernel, by decide +kernel⟩ (z / 8))).1; have h8 := (tx_int (k := 10) (i := z) (by decide) (Sm.of (b := 1024) (by omega) (by decide))).1; rw [PySem.sizeLine_eq]; exact Nat.le_trans (Nat.add_le_add h9 h8) (by decide +kernel))
              | (walk_at "len")) (e_addS (by
              first
              | (rw [PySem.sizeLine_eq]; simp; done)
              | omega
              | (rw [rngZ_len]; omega)
              | (have h9 := hns.1; rw [PySem.sizeLine_eq]; exact Nat.le_trans (Nat.add_le_add_left h9 _) (by decide +kernel))
              | (have h9 := (tx_app (a := 1) (x := "s") ⟨by decide +kernel, by decide +kernel⟩ hns).1; rw [PySem.sizeLine_eq]; exact Nat.le_trans (Nat.add_le_add_right h9 _) (by decide +kernel))
              | (have h9 := (tx_app (tx_app (a := 1) (x := "s") ⟨by decide +kernel, by decide +kernel⟩ hns) (b := 1) (y := ".") ⟨by decide +kernel, by decide +kernel⟩).1; have h8 := (tx_ch (z := "ab") (a := 2) ⟨by decide +kernel, by decide +kernel⟩ (z / 8)).1; rw [PySem.sizeLine_eq]; exact Nat.le_trans (Nat.add_le_add h9 h8) (by decide +kernel))
              | (have hz9 := rngZ_mem hz; have h9 := (tx_app (tx_app (tx_app (a := 1) (x := "s") ⟨by decide +kernel, by decide +kernel⟩ hns) (b := 1) (y := ".") ⟨by decide +kernel, by decide +kernel⟩) (tx_ch (z := "ab") (a := 2) ⟨by decide +kernel, by decide +kernel⟩ (z / 8))).1; have h8 := (tx_int (k := 10) (i := z) (by decide) (Sm.of (b := 1024) (by omega) (by decide))).1; rw [PySem.sizeLine_eq]; exact Nat.le_trans (Nat.add_le_add h9 h8) (by decide +kernel))
              | (walk_at "len")) e_str (e_strI B.str (dv 3 rfl) (by
              first | exact PySem.Flt.log2_lt_of (by decide) (Sm.of (n := 1920) (b := 1024) (by omega) (by decide)) | (have hz9 := rngZ_mem hz; exact PySem.Flt.log2_lt_of (by decide) (Sm.of (n := 1920) (b := 1024) (by omega) (by decide)))))) e_str) (e_chAt e_str (e_fdiv (dv 8 rfl) e_int (by
              first | omega | decide | (have hz9 := rngZ_mem hz; omega))) (by
              first | omega | (show 0 ≤ _ ∧ _ < ((4 : Nat) : Int); omega) | (show 0 ≤ _ ∧ _ < ((6 : Nat) : Int); omega) | (have hz9 := rngZ_mem hz; first | omega | (show 0 ≤ _ ∧ _ < ((2 : Nat) : Int); omega)) | (show (0 : Int) ≤ 0 ∧ (0 : Int) < _; omega)) (by
              rw [PySem.sizeLine_eq]; decide +kernel))) (e_strI B.str (dv 8 rfl) (by
              first | exact PySem.Flt.log2_lt_of (by decide) (Sm.of (n := 1920) (b := 1024) (by omega) (by decide)) | (have hz9 := rngZ_mem hz; exact PySem.Flt.log2_lt_of (by decide) (Sm.of (n := 1920) (b := 1024) (by omega) (by decide)))))) (e_ixT (e_ixG (enc := (eT2 PyData.int PyData.int)) (0, 0) (l_e (dv 6 rfl)) (dv 8 rfl) (by
              first | omega | (show 0 ≤ _ ∧ _ < ((4 : Nat) : Int); omega) | (show 0 ≤ _ ∧ _ < ((6 : Nat) : Int); omega) | (have hz9 := rngZ_mem hz; first | omega | (show 0 ≤ _ ∧ _ < ((2 : Nat) : Int); omega)) | (show (0 : Int) ≤ 0 ∧ (0 : Int) < _; omega))) e_int rfl) (e_ixT (e_ixG (enc := (eT2 PyData.int PyData.int)) (0, 0) (l_e (dv 6 rfl)) (dv 8 rfl) (by
              first | omega | (show 0 ≤ _ ∧ _ < ((4 : Nat) : Int); omega) | (show 0 ≤ _ ∧ _ < ((6 : Nat) : Int); omega) | (have hz9 := rngZ_mem hz; first | omega | (show 0 ≤ _ ∧ _ < ((2 : Nat) : Int); omega)) | (show (0 : Int) ≤ 0 ∧ (0 : Int) < _; omega))) e_int rfl))) rfl) ?_
      refine s_env (env' := [_, _, _, _, _, _, _, _, _, _, _]) rfl ?_
      skip
      refine s_fork (s_if (c_eqI (m := true) (e_lenG (enc := (eT3 PyData.str PyData.int PyData.int)) B.len (ov 7 rfl)) e_int).2 (fun hb102 => ?_) (fun hb102 => ?_))
      · walk_at "hb"
        exact s_last (s_ret (e_tup3 (f := PyData.str) (g := (eL (eT3 PyData.int PyData.int PyData.int))) (h := PyData.str) e_str (e_o (o_list (a_consG (enc := (eT3 PyData.int PyData.int PyData.int)) (e_tup3 (f := PyData.int) (g := PyData.int) (h := PyData.int) e_int (e_ixT (e_ixG (enc := (eT2 PyData.int PyData.int)) (0, 0) (l_e (dv 6 rfl)) e_int (by
                first | omega | (show 0 ≤ _ ∧ _ < ((4 : Nat) : Int); omega) | (show 0 ≤ _ ∧ _ < ((6 : Nat) : Int); omega) | (have hz9 := rngZ_mem hz; first | omega | (show 0 ≤ _ ∧ _ < ((2 : Nat) : Int); omega)) | (show (0 : Int) ≤ 0 ∧ (0 : Int) < _; omega))) e_int rfl) (e_ixT (e_ixG (enc := (eT2 PyData.int PyData.int)) (0, 0) (l_e (dv 6 rfl)) e_int (by
                first | omega | (show 0 ≤ _ ∧ _ < ((4 : Nat) : Int); omega) | (show 0 ≤ _ ∧ _ < ((6 : Nat) : Int); omega) | (have hz9 := rngZ_mem hz; first | omega | (show 0 ≤ _ ∧ _ < ((2 : Nat) : Int); omega)) | (show (0 : Int) ≤ 0 ∧ (0 : Int) < _; omega))) e_int rfl)) (a_nilG (enc := (eT3 PyData.int PyData.int PyData.int)))) (by
                first
                | (rw [PySem.sizeLine_eq]; simp; done)
                | omega
                | (rw [rngZ_len]; omega)
                | (have h9 := hns.1; rw [PySem.sizeLine_eq]; exact Nat.le_trans (Nat.add_le_add_left h9 _) (by decide +kernel))
                | (have h9 := (tx_app (a := 1) (x := "s") ⟨by decide +kernel, by decide +kernel⟩ hns).1; rw [PySem.sizeLine_eq]; exact Nat.le_trans (Nat.add_le_add_right h9 _) (by decide +kernel))
                | (have h9 := (tx_app (tx_app (a := 1) (x := "s") ⟨by decide +kernel, by decide +kernel⟩ hns) (b := 1) (y := ".") ⟨by decide +kernel, by decide +kernel⟩).1; have h8 := (tx_ch (z := "ab") (a := 2) ⟨by decide +kernel, by decide +kernel⟩ (z / 8)).1; rw [PySem.sizeLine_eq]; exact Nat.le_trans (Nat.add_le_add h9 h8) (by decide +kernel))
                | (have hz9 := rngZ_mem hz; have h9 := (tx_app (tx_app (tx_app (a := 1) (x := "s") ⟨by decide +kernel, by decide +kernel⟩ hns) (b := 1) (y := ".") ⟨by decide +kernel, by decide +kernel⟩) (tx_ch (z := "ab") (a := 2) ⟨by decide +kernel, by decide +kernel⟩ (z / 8))).1; have h8 := (tx_int (k := 10) (i := z) (by decide) (Sm.of (b := 1024) (by omega) (by decide))).1; rw [PySem.sizeLine_eq]; exact Nat.le_trans (Nat.add_le_add h9 h8) (by decide +kernel))
                | (walk_at "len")))) (dv 4 rfl)) (by
                show RS.dat _ = RS.dat (eLw (lone ds u v n))
                unfold lone
                first
                | (rw [if_pos (of_decide_eq_true hb90)]; rfl)
                | (rw [if_neg (of_decide_eq_false hb90), if_pos (of_decide_eq_true hb92)]; rfl)
                | (rw [if_neg (of_decide_eq_false hb90), if_neg (of_decide_eq_false hb92), if_pos (by have h := of_decide_eq_true hb102; exact Int.ofNat.inj h)]; rfl)
                | (rw [if_neg (of_decide_eq_false hb90), if_neg (of_decide_eq_false hb92), if_neg (by have h := of_decide_eq_false hb102; exact fun q => h (congrArg Int.ofNat q))]; rfl)))
      · walk_at "hb"
        refine s_nil ?_
        refine s_frz (i := 7) rfl ?_
        exact s_last (s_ret (e_tup (a_cons e_str (a_cons (e_ixT (e_ixG (enc := (eT2 PyData.int PyData.int)) (0, 0) (l_e (dv 6 rfl)) e_int (by
                first | omega | (show 0 ≤ _ ∧ _ < ((4 : Nat) : Int); omega) | (show 0 ≤ _ ∧ _ < ((6 : Nat) : Int); omega) | (have hz9 := rngZ_mem hz; first | omega | (show 0 ≤ _ ∧ _ < ((2 : Nat) : Int); omega)) | (show (0 : Int) ≤ 0 ∧ (0 : Int) < _; omega))) e_int rfl) (a_cons (e_ixT (e_ixG (enc := (eT2 PyData.int PyData.int)) (0, 0) (l_e (dv 6 rfl)) e_int (by
                first | omega | (show 0 ≤ _ ∧ _ < ((4 : Nat) : Int); omega) | (show 0 ≤ _ ∧ _ < ((6 : Nat) : Int); omega) | (have hz9 := rngZ_mem hz; first | omega | (show 0 ≤ _ ∧ _ < ((2 : Nat) : Int); omega)) | (show (0 : Int) ≤ 0 ∧ (0 : Int) < _; omega))) e_int rfl) (a_cons (dv 7 rfl) (a_cons (dv 4 rfl) a_nil))))) (by
                first
                | (rw [PySem.sizeLine_eq]; simp; done)
                | omega
                | (rw [rngZ_len]; omega)
                | (have h9 := hns.1; rw [PySem.sizeLine_eq]; exact Nat.le_trans (Nat.add_le_add_left h9 _) (by decide +kernel))
                | (have h9 := (tx_app (a := 1) (x := "s") ⟨by decide +kernel, by decide +kernel⟩ hns).1; rw [PySem.sizeLine_eq]; exact Nat.le_trans (Nat.add_le_add_right h9 _) (by decide +kernel))
                | (have h9 := (tx_app (tx_app (a := 1) (x := "s") ⟨by decide +kernel, by decide +kernel⟩ hns) (b := 1) (y := ".") ⟨by decide +kernel, by decide +kernel⟩).1; have h8 := (tx_ch (z := "ab") (a := 2) ⟨by decide +kernel, by decide +kernel⟩ (z / 8)).1; rw [PySem.sizeLine_eq]; exact Nat.le_trans (Nat.add_le_add h9 h8) (by decide +kernel))
                | (have hz9 := rngZ_mem hz; have h9 := (tx_app (tx_app (tx_app (a := 1) (x := "s") ⟨by decide +kernel, by decide +kernel⟩ hns) (b := 1) (y := ".") ⟨by decide +kernel, by decide +kernel⟩) (tx_ch (z := "ab") (a := 2) ⟨by decide +kernel, by decide +kernel⟩ (z / 8))).1; have h8 := (tx_int (k := 10) (i := z) (by decide) (Sm.of (b := 1024) (by omega) (by decide))).1; rw [PySem.sizeLine_eq]; exact Nat.le_trans (Nat.add_le_add h9 h8) (by decide +kernel))
                | (walk_at "len"))) (by
                show RS.dat _ = RS.dat (eLw (lone ds u v n))
                unfold lone
                first
                | (rw [if_pos (of_decide_eq_true hb90)]; rfl)
                | (rw [if_neg (of_decide_eq_false hb90), if_pos (of_decide_eq_true hb92)]; rfl)
                | (rw [if_neg (of_decide_eq_false hb90), if_neg (of_decide_eq_false hb92), if_pos (by have h := of_decide_eq_true hb102; exact Int.ofNat.inj h)]; rfl)
                | (rw [if_neg (of_decide_eq_false hb90), if_neg (of_decide_eq_false hb92), if_neg (by have h := of_decide_eq_false hb102; exact fun q => h (congrArg Int.ofNat q))]; rfl)))
/-! ### _law_long -/
abbrev s__law_long : Stmt := topS 21
theorem sc__law_long : FnScope ["draws", "first", "many", "size", "places", "terms", "t"] ["draws", "first", "many"] (defScope s__law_long) := ⟨rfl, rfl, rfl, by decide +kernel, rfl, by decide +kernel, by decide +kernel⟩
def R__law_long (dd : List PyData) (r : RS) : Prop := ∃ (ds : (List Int)) (u : Int) (v : Int), dd = [((eL PyData.int) ds), (.int u), (.int v)] ∧ (0 ≤ u ∧ 0 < v ∧ v ≤ 30) ∧ r = .dat (eLw (llong ds u v))
theorem ok__law_long {P : Program} {w : World} {K : KF} {mg : Str → Option Value} {base : Heap} {k : Nat} (B : Bt mg) (D__law_at : Def P w K mg base k "_law_at" (spD K 3 R__law_at)) (a : At K mg "_law_long" s__law_long ["draws", "first", "many"]) : Def P w K mg base (k + 1) "_law_long" (spD K 3 R__law_long) := by
  have nd := sc__law_long.nd
  refine a.def fun f fd F => def_ok F sc__law_long fun cdv A outer s H E ds r hr hl hR => ?_
  obtain ⟨ds, u, v, rfl, hp1, rfl⟩ := hR
  have a4 := lawAt_bd ds u (4 * v) (by omega)
  show PSs _ _ (tS K [.dat ((eL PyData.int) ds), .dat (.int u), .dat (.int v), .no, .no, .no, .no] _)
  refine s_then (s_set 3 nd rfl (e_add e_int (e_call D__law_at hr (a_cons (m := true) (dv 0 rfl) (a_cons (m := true) (dv 1 rfl) (a_cons (m := true) (e_mulS e_int (dv 2 rfl) (by
          first | exact .inl ⟨by decide, by omega⟩ | exact .inr ⟨by decide, by omega⟩ | exact .inl ⟨by omega, by omega⟩ | exact .inr ⟨by omega, by omega⟩ | (refine .inr ⟨by decide, ?_⟩; split <;> omega) | (simp only [List.mem_range] at hz; exact .inr ⟨by omega, by omega⟩) | (simp only [List.mem_range] at hz; exact .inl ⟨by omega, by omega⟩) | skip)) (a_nil (m := true))))) rfl ⟨_, _, _, rfl, (by
          first | omega | exact ⟨by omega, by omega⟩ | exact ⟨by omega, by decide⟩ | skip), rfl⟩)) rfl) ?_
  refine s_env (env' := [_, _, _, _, _, _, _]) rfl ?_
  show PSs _ _ (tS K (_ :: _ :: _ :: .dat (.int (1 + lawAt ds u (4 * v))) :: _) _)
  refine s_then (s_set 4 nd rfl (e_o (o_lcTA (enc := (fun z => (fun (k : Nat) => PyData.int (k : Int)) z)) (encB := (eT2 PyData.int PyData.int)) (own := [("t", 6)]) (g := gName 6) (ix := [6]) (f := (fun z env => (env.set 6 (.dat ((fun (k : Nat) => PyData.int (k : Int)) z))))) nd (i_rngN B.range (dv 3 rfl) (by
          first | omega | decide | (simp only [List.mem_range] at hz; omega) | (have hz9 := rngZ_mem hz; omega) | skip)) (by
          first
          | (rw [PySem.sizeLine_eq]; simp; done)
          | (rw [List.length_range]; omega)
          | omega
          | (rw [rngZ_len]; omega)
          | (have hz9 := rngZ_mem hz; have h8 := (tx_int (k := 10) (i := z) (by decide) (Sm.of (b := 1024) (by omega) (by decide))).1; rw [PySem.sizeLine_eq]; exact Nat.le_trans (Nat.add_le_add_left h8 _) (by decide +kernel))
          | (have hz9 := rngZ_mem hz; have h9 := (tx_app (a := 4) (x := "long") ⟨by decide +kernel, by decide +kernel⟩ (tx_int (k := 10) (i := z) (by decide) (Sm.of (b := 1024) (by omega) (by decide)))).1; rw [PySem.sizeLine_eq]; refine Nat.le_trans (Nat.add_le_add h9 (tx_mul (k := 190) (a := 1) (x := "z") ⟨by decide +kernel, by decide +kernel⟩ ?_).1) (by decide +kernel); split <;> decide)
          | skip) (by first | (show blkC ["draws", "first", "many", "size", "places", "terms", "t"] (defScope s__law_long) _ [("t", 6)] = true; decide +kernel) | kernel_rfl) (fun s H C cl fp => (pg_name (i := 6) nd rfl (by first | exact .inl rfl | exact .inr rfl))) (fun z hz => asg_name) (by decide) (fun z hz s H C cl fp => (e_tup2 (f := PyData.int) (g := PyData.int) (e_mod (e_intI B.int (dv 6 rfl)) e_int (by
          first | omega | decide | (simp only [List.mem_range] at hz; omega) | (have hz9 := rngZ_mem hz; omega) | skip)) (e_mod (e_intI B.int (e_fdiv (dv 6 rfl) e_int (by
          first | omega | decide | (simp only [List.mem_range] at hz; omega) | (have hz9 := rngZ_mem hz; omega) | skip))) (dv 2 rfl) (by
          first | omega | decide | (simp only [List.mem_range] at hz; omega) | (have hz9 := rngZ_mem hz; omega) | skip)))))) rfl) ?_
  refine s_env (env' := [_, _, _, _, _, _, _]) rfl ?_
  have hgl : (lgp v (1 + lawAt ds u (4 * v))).length = (1 + lawAt ds u (4 * v)).toNat := by unfold lgp; rw [List.length_map, List.length_range]
  refine s_fork (s_if (t_w (w_or (c_lt (m := true) (dv 3 rfl) e_int).2 (fun hq => (w_one (c_eqI (m := true) (e_call D__law_at hr (a_cons (m := true) (dv 0 rfl) (a_cons (m := true) (e_add (dv 1 rfl) e_int) (a_cons (m := true) e_int (a_nil (m := true))))) rfl ⟨_, _, _, rfl, (by
          first | omega | exact ⟨by omega, by omega⟩ | exact ⟨by omega, by decide⟩ | skip), rfl⟩) e_int).2)))) (fun hb108 => ?_) (fun hb108 => ?_))
  · walk_at "hb"
    exact s_last (s_ret (e_tup3 (f := PyData.str) (g := (eL (eT3 PyData.int PyData.int PyData.int))) (h := PyData.str) e_str (e_o (o_lcTA (enc := (fun z => (fun (k : Nat) => PyData.int (k : Int)) z)) (encB := (eT3 PyData.int PyData.int PyData.int)) (own := [("t", 6)]) (g := gName 6) (ix := [6]) (f := (fun z env => (env.set 6 (.dat ((fun (k : Nat) => PyData.int (k : Int)) z))))) nd (i_rngN B.range (dv 3 rfl) (by
            first | omega | decide | (simp only [List.mem_range] at hz; omega) | (have hz9 := rngZ_mem hz; omega) | skip)) (by
            first
            | (rw [PySem.sizeLine_eq]; simp; done)
            | (rw [List.length_range]; omega)
            | omega
            | (rw [rngZ_len]; omega)
            | (have hz9 := rngZ_mem hz; have h8 := (tx_int (k := 10) (i := z) (by decide) (Sm.of (b := 1024) (by omega) (by decide))).1; rw [PySem.sizeLine_eq]; exact Nat.le_trans (Nat.add_le_add_left h8 _) (by decide +kernel))
            | (have hz9 := rngZ_mem hz; have h9 := (tx_app (a := 4) (x := "long") ⟨by decide +kernel, by decide +kernel⟩ (tx_int (k := 10) (i := z) (by decide) (Sm.of (b := 1024) (by omega) (by decide)))).1; rw [PySem.sizeLine_eq]; refine Nat.le_trans (Nat.add_le_add h9 (tx_mul (k := 190) (a := 1) (x := "z") ⟨by decide +kernel, by decide +kernel⟩ ?_).1) (by decide +kernel); split <;> decide)
            | skip) (by first | (show blkC ["draws", "first", "many", "size", "places", "terms", "t"] (defScope s__law_long) _ [("t", 6)] = true; decide +kernel) | kernel_rfl) (fun s H C cl fp => (pg_name (i := 6) nd rfl (by first | exact .inl rfl | exact .inr rfl))) (fun z hz => asg_name) (by decide) (fun z hz s H C cl fp => (e_tup3 (f := PyData.int) (g := PyData.int) (h := PyData.int) (e_sub (e_add e_int (e_mulS e_int (dv 6 rfl) (by
            first | exact .inl ⟨by decide, by omega⟩ | exact .inr ⟨by decide, by omega⟩ | exact .inl ⟨by omega, by omega⟩ | exact .inr ⟨by omega, by omega⟩ | (refine .inr ⟨by decide, ?_⟩; split <;> omega) | (simp only [List.mem_range] at hz; exact .inr ⟨by omega, by omega⟩) | (simp only [List.mem_range] at hz; exact .inl ⟨by omega, by omega⟩) | skip))) e_int) (e_ixT (e_ixG (enc := (eT2 PyData.int PyData.int)) (0, 0) (l_e (dv 4 rfl)) (dv 6 rfl) (by
            first | (simp only [List.mem_range] at hz; show 0 ≤ (z : Int) ∧ (z : Int) < ((lgp v (1 + lawAt ds u (4 * v))).length : Int); omega) | (have hz9 := rngZ_mem hz; show 0 ≤ (z : Int) ∧ (z : Int) < ((lgp v (1 + lawAt ds u (4 * v))).length : Int); omega) | (show 0 ≤ (0 : Int) ∧ (0 : Int) < ((lgp v (1 + lawAt ds u (4 * v))).length : Int); omega) | skip)) e_int rfl) (e_ixT (e_ixG (enc := (eT2 PyData.int PyData.int)) (0, 0) (l_e (dv 4 rfl)) (dv 6 rfl) (by
            first | (simp only [List.mem_range] at hz; show 0 ≤ (z : Int) ∧ (z : Int) < ((lgp v (1 + lawAt ds u (4 * v))).length : Int); omega) | (have hz9 := rngZ_mem hz; show 0 ≤ (z : Int) ∧ (z : Int) < ((lgp v (1 + lawAt ds u (4 * v))).length : Int); omega) | (show 0 ≤ (0 : Int) ∧ (0 : Int) < ((lgp v (1 + lawAt ds u (4 * v))).length : Int); omega) | skip)) e_int rfl))))) (e_repS e_str e_int (by
            first | exact ⟨by decide +kernel, by decide, by decide⟩ | (refine ⟨by decide +kernel, ?_, ?_⟩ <;> split <;> decide) | skip))) (by
            show RS.dat _ = RS.dat (eLw (llong ds u v))
            unfold llong
            first
            | (rw [if_pos (by simpa using hb108)]; rfl)
            | (rw [if_neg (by simpa using hb108)]; rfl)))
  · walk_at "hb"
    refine s_nil ?_
    refine s_then (s_setLcTA (enc := PyData.int) (encB := (eT3 PyData.str PyData.int PyData.int)) (own := [("t", 6)]) (g := gName 6) (ix := [6]) (f := (fun z env => (env.set 6 (.dat (.int z))))) 5 nd rfl (i_rngZ B.range e_int (dv 3 rfl) (by
            first | omega | decide | (simp only [List.mem_range] at hz; omega) | (have hz9 := rngZ_mem hz; omega) | skip)) (by
            first
            | (rw [PySem.sizeLine_eq]; simp; done)
            | (rw [List.length_range]; omega)
            | omega
            | (rw [rngZ_len]; omega)
            | (have hz9 := rngZ_mem hz; have h8 := (tx_int (k := 10) (i := z) (by decide) (Sm.of (b := 1024) (by omega) (by decide))).1; rw [PySem.sizeLine_eq]; exact Nat.le_trans (Nat.add_le_add_left h8 _) (by decide +kernel))
            | (have hz9 := rngZ_mem hz; have h9 := (tx_app (a := 4) (x := "long") ⟨by decide +kernel, by decide +kernel⟩ (tx_int (k := 10) (i := z) (by decide) (Sm.of (b := 1024) (by omega) (by decide)))).1; rw [PySem.sizeLine_eq]; refine Nat.le_trans (Nat.add_le_add h9 (tx_mul (k := 190) (a := 1) (x := "z") ⟨by decide +kernel, by decide +kernel⟩ ?_).1) (by decide +kernel); split <;> decide)
            | skip) (by first | (show blkC ["draws", "first", "many", "size", "places", "terms", "t"] (defScope s__law_long) _ [("t", 6)] = true; decide +kernel) | kernel_rfl) (fun s H C cl fp => (pg_name (i := 6) nd rfl (by first | exact .inl rfl | exact .inr rfl))) (fun z hz => asg_name) (by decide) (fun z hz s H C cl fp => (e_tup3 (f := PyData.str) (g := PyData.int) (h := PyData.int) (e_addS (by
            first
            | (rw [PySem.sizeLine_eq]; simp; done)
            | (rw [List.length_range]; omega)
            | omega
            | (rw [rngZ_len]; omega)
            | (have hz9 := rngZ_mem hz; have h8 := (tx_int (k := 10) (i := z) (by decide) (Sm.of (b := 1024) (by omega) (by decide))).1; rw [PySem.sizeLine_eq]; exact Nat.le_trans (Nat.add_le_add_left h8 _) (by decide +kernel))
            | (have hz9 := rngZ_mem hz; have h9 := (tx_app (a := 4) (x := "long") ⟨by decide +kernel, by decide +kernel⟩ (tx_int (k := 10) (i := z) (by decide) (Sm.of (b := 1024) (by omega) (by decide)))).1; rw [PySem.sizeLine_eq]; refine Nat.le_trans (Nat.add_le_add h9 (tx_mul (k := 190) (a := 1) (x := "z") ⟨by decide +kernel, by decide +kernel⟩ ?_).1) (by decide +kernel); split <;> decide)
            | skip) (e_addS (by
            first
            | (rw [PySem.sizeLine_eq]; simp; done)
            | (rw [List.length_range]; omega)
            | omega
            | (rw [rngZ_len]; omega)
            | (have hz9 := rngZ_mem hz; have h8 := (tx_int (k := 10) (i := z) (by decide) (Sm.of (b := 1024) (by omega) (by decide))).1; rw [PySem.sizeLine_eq]; exact Nat.le_trans (Nat.add_le_add_left h8 _) (by decide +kernel))
            | (have hz9 := rngZ_mem hz; have h9 := (tx_app (a := 4) (x := "long") ⟨by decide +kernel, by decide +kernel⟩ (tx_int (k := 10) (i := z) (by decide) (Sm.of (b := 1024) (by omega) (by decide)))).1; rw [PySem.sizeLine_eq]; refine Nat.le_trans (Nat.add_le_add h9 (tx_mul (k := 190) (a := 1) (x := "z") ⟨by decide +kernel, by decide +kernel⟩ ?_).1) (by decide +kernel); split <;> decide)
            | skip) e_str (e_strI B.str (dv 6 rfl) (by
            (have hz9 := rngZ_mem hz; exact PySem.Flt.log2_lt_of (by decide) (Sm.of (n := 1920) (b := 1024) (by omega) (by decide)))))) (e_repS e_str (e_mulS e_int (e_intB B.int (c_eqI (dv 6 rfl) (e_sub (dv 3 rfl) e_int)).1) (by
            first | exact .inl ⟨by decide, by omega⟩ | exact .inr ⟨by decide, by omega⟩ | exact .inl ⟨by omega, by omega⟩ | exact .inr ⟨by omega, by omega⟩ | (refine .inr ⟨by decide, ?_⟩; split <;> omega) | (simp only [List.mem_range] at hz; exact .inr ⟨by omega, by omega⟩) | (simp only [List.mem_range] at hz; exact .inl ⟨by omega, by omega⟩) | skip)) (by
            first | exact ⟨by decide +kernel, by decide, by decide⟩ | (refine ⟨by decide +kernel, ?_, ?_⟩ <;> split <;> decide) | skip))) (e_ixT (e_ixG (enc := (eT2 PyData.int PyData.int)) (0, 0) (l_e (dv 4 rfl)) (dv 6 rfl) (by
            first | (simp only [List.mem_range] at hz; show 0 ≤ (z : Int) ∧ (z : Int) < ((lgp v (1 + lawAt ds u (4 * v))).length : Int); omega) | (have hz9 := rngZ_mem hz; show 0 ≤ (z : Int) ∧ (z : Int) < ((lgp v (1 + lawAt ds u (4 * v))).length : Int); omega) | (show 0 ≤ (0 : Int) ∧ (0 : Int) < ((lgp v (1 + lawAt ds u (4 * v))).length : Int); omega) | skip)) e_int rfl) (e_ixT (e_ixG (enc := (eT2 PyData.int PyData.int)) (0, 0) (l_e (dv 4 rfl)) (dv 6 rfl) (by
            first | (simp only [List.mem_range] at hz; show 0 ≤ (z : Int) ∧ (z : Int) < ((lgp v (1 + lawAt ds u (4 * v))).length : Int); omega) | (have hz9 := rngZ_mem hz; show 0 ≤ (z : Int) ∧ (z : Int) < ((lgp v (1 + lawAt ds u (4 * v))).length : Int); omega) | (show 0 ≤ (0 : Int) ∧ (0 : Int) < ((lgp v (1 + lawAt ds u (4 * v))).length : Int); omega) | skip)) e_int rfl))) rfl) ?_
    refine s_frz (i := 5) rfl ?_
    refine s_env (env' := [_, _, _, _, _, _, _]) rfl ?_
    exact s_last (s_ret (e_tup (a_cons e_str (a_cons (e_ixT (e_ixG (enc := (eT2 PyData.int PyData.int)) (0, 0) (l_e (dv 4 rfl)) e_int (by
            first | (simp only [List.mem_range] at hz; show 0 ≤ (z : Int) ∧ (z : Int) < ((lgp v (1 + lawAt ds u (4 * v))).length : Int); omega) | (have hz9 := rngZ_mem hz; show 0 ≤ (z : Int) ∧ (z : Int) < ((lgp v (1 + lawAt ds u (4 * v))).length : Int); omega) | (show 0 ≤ (0 : Int) ∧ (0 : Int) < ((lgp v (1 + lawAt ds u (4 * v))).length : Int); omega) | skip)) e_int rfl) (a_cons (e_ixT (e_ixG (enc := (eT2 PyData.int PyData.int)) (0, 0) (l_e (dv 4 rfl)) e_int (by
            first | (simp only [List.mem_range] at hz; show 0 ≤ (z : Int) ∧ (z : Int) < ((lgp v (1 + lawAt ds u (4 * v))).length : Int); omega) | (have hz9 := rngZ_mem hz; show 0 ≤ (z : Int) ∧ (z : Int) < ((lgp v (1 + lawAt ds u (4 * v))).length : Int); omega) | (show 0 ≤ (0 : Int) ∧ (0 : Int) < ((lgp v (1 + lawAt ds u (4 * v))).length : Int); omega) | skip)) e_int rfl) (a_cons (dv 5 rfl) (a_cons e_str a_nil))))) (by
            first
            | (rw [PySem.sizeLine_eq]; simp; done)
            | (rw [List.length_range]; omega)
            | omega
            | (rw [rngZ_len]; omega)
            | (have hz9 := rngZ_mem hz; have h8 := (tx_int (k := 10) (i := z) (by decide) (Sm.of (b := 1024) (by omega) (by decide))).1; rw [PySem.sizeLine_eq]; exact Nat.le_trans (Nat.add_le_add_left h8 _) (by decide +kernel))
            | (have hz9 := rngZ_mem hz; have h9 := (tx_app (a := 4) (x := "long") ⟨by decide +kernel, by decide +kernel⟩ (tx_int (k := 10) (i := z) (by decide) (Sm.of (b := 1024) (by omega) (by decide)))).1; rw [PySem.sizeLine_eq]; refine Nat.le_trans (Nat.add_le_add h9 (tx_mul (k := 190) (a := 1) (x := "z") ⟨by decide +kernel, by decide +kernel⟩ ?_).1) (by decide +kernel); split <;> decide)
            | skip)) (by
            show RS.dat _ = RS.dat (eLw (llong ds u v))
            unfold llong
            first
            | (rw [if_pos (by simpa using hb108)]; rfl)
            | (rw [if_neg (by simpa using hb108)]; rfl)))
/-! ### _law_model -/
abbrev s__law_model : Stmt := topS 22
theorem sc__law_model : FnScope ["draws", "first", "many", "laws", "quantities", "rows", "i"] ["draws", "first"] (defScope s__law_model) := ⟨rfl, rfl, rfl, by decide +kernel, rfl, by decide +kernel, by decide +kernel⟩
def R__law_model (dd : List PyData) (r : RS) : Prop := ∃ (ds : (List Int)) (u : Int), dd = [((eL PyData.int) ds), (.int u)] ∧ (0 ≤ u) ∧ r = .dat ((eT2 (eL PyData.str) (eL eLw)) (lmodel ds u))
theorem ok__law_model {P : Program} {w : World} {K : KF} {mg : Str → Option Value} {base : Heap} {k : Nat} (B : Bt mg) (D__law_at : Def P w K mg base k "_law_at" (spD K 3 R__law_at)) (D__law_quantities : Def P w K mg base k "_law_quantities" (spD K 3 R__law_quantities)) (D__law_one : Def P w K mg base k "_law_one" (spD K 4 R__law_one)) (D__law_long : Def P w K mg base k "_law_long" (spD K 3 R__law_long)) (a : At K mg "_law_model" s__law_model ["draws", "first"]) : Def P w K mg base (k + 1) "_law_model" (spD K 2 R__law_model) := by
  have nd := sc__law_model.nd
  refine a.def fun f fd F => def_ok F sc__law_model fun cdv A outer s H E ds r hr hl hR => ?_
  obtain ⟨ds, u, rfl, hp1, rfl⟩ := hR
  have a1 := lawAt_bd ds u 7 (by decide)
  have a2 := lawAt_bd ds (u + 1) 7 (by decide)
  have a3 := lawAt_bd ds u 2 (by decide)
  have a4 := lawAt_bd ds (u + 1) 2 (by decide)
  have hMn : 0 ≤ lmMany ds u ∧ lmMany ds u ≤ 30 := by unfold lmMany; split <;> omega
  have hLn : 0 ≤ lmLaws ds u ∧ lmLaws ds u ≤ 40 ∧ (lmMany ds u > 28 → 39 ≤ lmLaws ds u) := by unfold lmLaws lmMany; split <;> omega
  show PSs _ _ (tS K [.dat ((eL PyData.int) ds), .dat (.int u), .no, .no, .no, .no, .no] _)
  refine s_then (s_set 2 nd rfl (e_call D__law_at hr (a_cons (m := true) (dv 0 rfl) (a_cons (m := true) (dv 1 rfl) (a_cons (m := true) e_int (a_nil (m := true))))) rfl ⟨_, _, _, rfl, (by
          first | omega | exact ⟨by omega, by omega⟩ | exact ⟨by omega, by decide⟩ | (simp only [List.mem_range] at hz; exact ⟨by omega, by omega, by omega, by omega, by omega⟩) | (refine ⟨by omega, ?_, ?_⟩ <;> first | omega | (have h := of_decide_eq_true hb120; omega)) | (refine ⟨by omega, ?_⟩; have h := of_decide_eq_true hb120; omega) | skip), rfl⟩) rfl) ?_
  refine s_env (env' := [_, _, _, _, _, _, _]) rfl ?_
  refine s_then (s_set 3 nd rfl (e_call D__law_at hr (a_cons (m := true) (dv 0 rfl) (a_cons (m := true) (e_add (dv 1 rfl) e_int) (a_cons (m := true) e_int (a_nil (m := true))))) rfl ⟨_, _, _, rfl, (by
          first | omega | exact ⟨by omega, by omega⟩ | exact ⟨by omega, by decide⟩ | (simp only [List.mem_range] at hz; exact ⟨by omega, by omega, by omega, by omega, by omega⟩) | (refine ⟨by omega, ?_, ?_⟩ <;> first | omega | (have h := of_decide_eq_true hb120; omega)) | (refine ⟨by omega, ?_⟩; have h := of_decide_eq_true hb120; omega) | skip), rfl⟩) rfl) ?_
  refine s_env (env' := [_, _, _, _, _, _, _]) rfl ?_
  refine s_join (fun (q : Int × Int) => [(2, .dat (.int q.1)), (3, .dat (.int q.2))]) (fun (q : Int × Int) => q = (lmMany ds u, lmLaws ds u)) (s_if (c_eqI (m := true) (e_call D__law_at hr (a_cons (m := true) (dv 0 rfl) (a_cons (m := true) (e_add (dv 1 rfl) e_int) (a_cons (m := true) e_int (a_nil (m := true))))) rfl ⟨_, _, _, rfl, (by
          first | omega | exact ⟨by omega, by omega⟩ | exact ⟨by omega, by decide⟩ | (simp only [List.mem_range] at hz; exact ⟨by omega, by omega, by omega, by omega, by omega⟩) | (refine ⟨by omega, ?_, ?_⟩ <;> first | omega | (have h := of_decide_eq_true hb120; omega)) | (refine ⟨by omega, ?_⟩; have h := of_decide_eq_true hb120; omega) | skip), rfl⟩) e_int).2 (fun hb115 => ?_) (fun hb115 => ?_)) (fun q hJ115 => ?_)
  · skip
    refine s_then (s_set 2 nd rfl (e_add e_int (e_call D__law_at hr (a_cons (m := true) (dv 0 rfl) (a_cons (m := true) (dv 1 rfl) (a_cons (m := true) e_int (a_nil (m := true))))) rfl ⟨_, _, _, rfl, (by
            first | omega | exact ⟨by omega, by omega⟩ | exact ⟨by omega, by decide⟩ | (simp only [List.mem_range] at hz; exact ⟨by omega, by omega, by omega, by omega, by omega⟩) | (refine ⟨by omega, ?_, ?_⟩ <;> first | omega | (have h := of_decide_eq_true hb120; omega)) | (refine ⟨by omega, ?_⟩; have h := of_decide_eq_true hb120; omega) | skip), rfl⟩)) rfl) ?_
    refine s_env (env' := [_, _, _, _, _, _, _]) rfl ?_
    refine s_then (s_set 3 nd rfl (e_add e_int (e_call D__law_at hr (a_cons (m := true) (dv 0 rfl) (a_cons (m := true) (e_add (dv 1 rfl) e_int) (a_cons (m := true) e_int (a_nil (m := true))))) rfl ⟨_, _, _, rfl, (by
            first | omega | exact ⟨by omega, by omega⟩ | exact ⟨by omega, by decide⟩ | (simp only [List.mem_range] at hz; exact ⟨by omega, by omega, by omega, by omega, by omega⟩) | (refine ⟨by omega, ?_, ?_⟩ <;> first | omega | (have h := of_decide_eq_true hb120; omega)) | (refine ⟨by omega, ?_⟩; have h := of_decide_eq_true hb120; omega) | skip), rfl⟩)) rfl) ?_
    refine s_env (env' := [_, _, _, _, _, _, _]) rfl ?_
    refine s_nil ⟨(29 + lawAt ds u 2, 39 + lawAt ds (u + 1) 2), (by
          unfold lmMany lmLaws
          first | (rw [if_pos (of_decide_eq_true hb115), if_pos (of_decide_eq_true hb115)]; done) | (rw [if_neg (of_decide_eq_false hb115), if_neg (of_decide_eq_false hb115)]; done)), ⟨.inr rfl, ⟨.inr rfl, ⟨.inr rfl, ⟨.inr rfl, ⟨.inr rfl, ⟨.inr rfl, ⟨.inr rfl, trivial⟩⟩⟩⟩⟩⟩⟩⟩
  · skip
    refine s_nil ⟨(lawAt ds u 7, lawAt ds (u + 1) 7), (by
          unfold lmMany lmLaws
          first | (rw [if_pos (of_decide_eq_true hb115), if_pos (of_decide_eq_true hb115)]; done) | (rw [if_neg (of_decide_eq_false hb115), if_neg (of_decide_eq_false hb115)]; done)), ⟨.inr rfl, ⟨.inr rfl, ⟨.inr rfl, ⟨.inr rfl, ⟨.inr rfl, ⟨.inr rfl, ⟨.inr rfl, trivial⟩⟩⟩⟩⟩⟩⟩⟩
  refine s_env (env' := [_, _, _, _, _, _, _]) rfl ?_
  subst hJ115
  show PSs _ _ (tS K (_ :: _ :: .dat (.int (lmMany ds u)) :: .dat (.int (lmLaws ds u)) :: _) _)
  refine s_then (s_set 4 nd rfl (e_o (o_call D__law_quantities hr (a_cons (m := true) (dv 0 rfl) (a_cons (m := true) (e_add (dv 1 rfl) e_int) (a_cons (m := true) (dv 2 rfl) (a_nil (m := true))))) rfl ⟨_, _, _, rfl, (by
          first | omega | exact ⟨by omega, by omega⟩ | exact ⟨by omega, by decide⟩ | (simp only [List.mem_range] at hz; exact ⟨by omega, by omega, by omega, by omega, by omega⟩) | (refine ⟨by omega, ?_, ?_⟩ <;> first | omega | (have h := of_decide_eq_true hb120; omega)) | (refine ⟨by omega, ?_⟩; have h := of_decide_eq_true hb120; omega) | skip), rfl⟩)) rfl) ?_
  refine s_env (env' := [_, _, _, _, _, _, _]) rfl ?_
  refine s_then (s_setLcTA (enc := (fun z => (fun (k : Nat) => PyData.int (k : Int)) z)) (encB := eLw) (own := [("i", 6)]) (g := gName 6) (ix := [6]) (f := (fun z env => (env.set 6 (.dat ((fun (k : Nat) => PyData.int (k : Int)) z))))) 5 nd rfl (i_rngN B.range (dv 3 rfl) (by
          first | omega | decide | skip)) (by
          first | omega | (rw [List.length_range]; omega) | skip) (by first | (show blkC ["draws", "first", "many", "laws", "quantities", "rows", "i"] (defScope s__law_model) _ [("i", 6)] = true; decide +kernel) | kernel_rfl) (fun s H C cl fp => (pg_name (i := 6) nd rfl (by first | exact .inl rfl | exact .inr rfl))) (fun z hz => asg_name) (by decide) (fun z hz s H C cl fp => (e_call D__law_one hr (a_cons (m := true) (dv 0 rfl) (a_cons (m := true) (e_add (e_add (dv 1 rfl) e_int) (e_mulS e_int (dv 6 rfl) (by
          first | exact .inl ⟨by decide, by omega⟩ | (simp only [List.mem_range] at hz; exact .inl ⟨by omega, by omega⟩) | (simp only [List.mem_range] at hz; exact .inr ⟨by omega, by omega⟩) | skip))) (a_cons (m := true) (dv 2 rfl) (a_cons (m := true) (dv 6 rfl) (a_nil (m := true)))))) rfl ⟨_, _, _, _, rfl, (by
          first | omega | exact ⟨by omega, by omega⟩ | exact ⟨by omega, by decide⟩ | (simp only [List.mem_range] at hz; exact ⟨by omega, by omega, by omega, by omega, by omega⟩) | (refine ⟨by omega, ?_, ?_⟩ <;> first | omega | (have h := of_decide_eq_true hb120; omega)) | (refine ⟨by omega, ?_⟩; have h := of_decide_eq_true hb120; omega) | skip), rfl⟩)) rfl) ?_
  refine s_env (env' := [_, _, _, _, _, _, _]) rfl ?_
  have hrl : (lmRows ds u).length = (lmLaws ds u).toNat := by unfold lmRows; rw [List.length_map, List.length_range]
  refine s_join (fun (rr : List Lw) => [(5, .own (rr.map eLw))]) (fun (rr : List Lw) => rr = (lmodel ds u).2) (s_if (c_gt (m := true) (dv 2 rfl) e_int).2 (fun hb120 => ?_) (fun hb120 => ?_)) (fun rr hJ120 => ?_)
  · skip
    refine s_then (s_setIxG (enc := eLw) 5 rfl (e_call D__law_long hr (a_cons (m := true) (dv 0 rfl) (a_cons (m := true) (e_add (dv 1 rfl) e_int) (a_cons (m := true) (dv 2 rfl) (a_nil (m := true))))) rfl ⟨_, _, _, rfl, (by
            first | omega | exact ⟨by omega, by omega⟩ | exact ⟨by omega, by decide⟩ | (simp only [List.mem_range] at hz; exact ⟨by omega, by omega, by omega, by omega, by omega⟩) | (refine ⟨by omega, ?_, ?_⟩ <;> first | omega | (have h := of_decide_eq_true hb120; omega)) | (refine ⟨by omega, ?_⟩; have h := of_decide_eq_true hb120; omega) | skip), rfl⟩) (e_call D__law_at hr (a_cons (m := true) (dv 0 rfl) (a_cons (m := true) (e_add (dv 1 rfl) e_int) (a_cons (m := true) (dv 3 rfl) (a_nil (m := true))))) rfl ⟨_, _, _, rfl, (by
            first | omega | exact ⟨by omega, by omega⟩ | exact ⟨by omega, by decide⟩ | (simp only [List.mem_range] at hz; exact ⟨by omega, by omega, by omega, by omega, by omega⟩) | (refine ⟨by omega, ?_, ?_⟩ <;> first | omega | (have h := of_decide_eq_true hb120; omega)) | (refine ⟨by omega, ?_⟩; have h := of_decide_eq_true hb120; omega) | skip), rfl⟩) (by
            (have h := of_decide_eq_true hb120; have h9 := lawAt_bd ds (u + 600) (lmLaws ds u) (by omega); show 0 ≤ lawAt ds (u + 600) (lmLaws ds u) ∧ lawAt ds (u + 600) (lmLaws ds u) < ((lmRows ds u).length : Int); omega)) rfl) ?_
    refine s_env (env' := [_, _, _, _, _, _, _]) rfl ?_
    refine s_nil ⟨_, (by
          unfold lmodel
          first | (rw [if_pos (of_decide_eq_true hb120)]; done) | (rw [if_pos (of_decide_eq_true hb120)]; rfl) | (rw [if_neg (of_decide_eq_false hb120)]; done) | (rw [if_neg (of_decide_eq_false hb120)]; rfl)), ⟨.inr rfl, ⟨.inr rfl, ⟨.inr rfl, ⟨.inr rfl, ⟨.inr rfl, ⟨.inr rfl, ⟨.inr rfl, trivial⟩⟩⟩⟩⟩⟩⟩⟩
  · skip
    refine s_nil ⟨_, (by
          unfold lmodel
          first | (rw [if_pos (of_decide_eq_true hb120)]; done) | (rw [if_pos (of_decide_eq_true hb120)]; rfl) | (rw [if_neg (of_decide_eq_false hb120)]; done) | (rw [if_neg (of_decide_eq_false hb120)]; rfl)), ⟨.inr rfl, ⟨.inr rfl, ⟨.inr rfl, ⟨.inr rfl, ⟨.inr rfl, ⟨.inr rfl, ⟨.inr rfl, trivial⟩⟩⟩⟩⟩⟩⟩⟩
  refine s_env (env' := [_, _, _, _, _, _, _]) rfl ?_
  subst hJ120
  refine s_frz (i := 5) rfl ?_
  exact s_last (s_ret (e_tup2 (f := (eL PyData.str)) (g := (eL eLw)) (dv 4 rfl) (dv 5 rfl)) (by
          rfl))
/-! ### terms_of -/
abbrev s_terms_of : Stmt := topS 4
theorem sc_terms_of : FnScope ["row"] ["row"] (defScope s_terms_of) := ⟨rfl, rfl, rfl, by decide +kernel, rfl, by decide +kernel, by decide +kernel⟩
def R_terms_of (dd : List PyData) (r : RS) : Prop := ∃ (z : Lw), dd = [(eLw z)] ∧ r = .dat ((eL (eT3 (fun z => z) PyData.int PyData.int)) (tmsD z))
theorem ok_terms_of {P : Program} {w : World} {K : KF} {mg : Str → Option Value} {base : Heap} {k : Nat} (B : Bt mg) (a : At K mg "terms_of" s_terms_of ["row"]) : Def P w K mg base (k + 1) "terms_of" (spD K 1 R_terms_of) := by
  have nd := sc_terms_of.nd
  refine a.def fun f fd F => def_ok F sc_terms_of fun cdv A outer s H E ds r hr hl hR => ?_
  obtain ⟨z, rfl, rfl⟩ := hR
  show PSs _ _ (tS K [.dat (eLw z)] _)
  rcases z with ⟨ts, src⟩ | ⟨kk, jj, ts, src⟩
  · skip
    refine c_ifT (c_eqS (m := true) (m1 := true) (m2 := true) (e_ixT (dv 0 rfl) e_int rfl) e_str).2 ?_ ?_
    · rfl
    exact s_last (s_ret (e_ixT (dv 0 rfl) e_int rfl) (by
            show RS.dat _ = RS.dat (eL _ (tmsD _))
            simp only [tmsD, eL, List.map_map]
            rfl))
  · skip
    refine c_ifF (c_eqS (m := true) (m1 := true) (m2 := true) (e_ixT (dv 0 rfl) e_int rfl) e_str).2 ?_ ?_
    · rfl
    exact s_last (s_ret (e_ixT (dv 0 rfl) e_int rfl) (by
            show RS.dat _ = RS.dat (eL _ (tmsD _))
            simp only [tmsD, eL, List.map_map]
            rfl))
/-! ### places_of -/
abbrev s_places_of : Stmt := topS 5
theorem sc_places_of : FnScope ["row", "found", "_", "k", "j"] ["row"] (defScope s_places_of) := ⟨rfl, rfl, rfl, by decide +kernel, rfl, by decide +kernel, by decide +kernel⟩
def R_places_of (dd : List PyData) (r : RS) : Prop := ∃ (z : Lw), dd = [(eLw z)] ∧ (TmL z) ∧ r = .own ((plcs z).map (eT2 PyData.int PyData.int))
theorem ok_places_of {P : Program} {w : World} {K : KF} {mg : Str → Option Value} {base : Heap} {k : Nat} (B : Bt mg) (D_terms_of : Def P w K mg base k "terms_of" (spD K 1 R_terms_of)) (a : At K mg "places_of" s_places_of ["row"]) : Def P w K mg base (k + 1) "places_of" (spD K 1 R_places_of) := by
  have nd := sc_places_of.nd
  refine a.def fun f fd F => def_ok F sc_places_of fun cdv A outer s H E ds r hr hl hR => ?_
  obtain ⟨z, rfl, hp1, rfl⟩ := hR
  show PSs _ _ (tS K [.dat (eLw z), .no, .no, .no, .no] _)
  refine s_then (s_setLcTA (enc := (eT3 (fun z => z) PyData.int PyData.int)) (encB := (eT2 PyData.int PyData.int)) (own := [("_", 2), ("k", 3), ("j", 4)]) (g := gTup _ 3 (gCons (gName 2) (gCons (gName 3) (gCons (gName 4) gNil)))) (ix := [2, 3, 4]) (f := (fun z env => (((env.set 2 (.dat z.1)).set 3 (.dat (.int z.2.1))).set 4 (.dat (.int z.2.2))))) 1 nd rfl (i_list (e_call D_terms_of hr (a_cons (m := true) (dv 0 rfl) (a_nil (m := true))) rfl ⟨_, rfl, rfl⟩)) (by
          first | (have h1 := hp1.1; have h2 := hp1.2; cases z <;> (show (List.map _ _).length ≤ _; rw [List.length_map]; first | exact Nat.le_trans h1 (by decide) | exact Nat.le_trans h2 (by decide))) | (have h2 := hp1.2; rw [PySem.sizeLine_eq]; simp [tmsD]; have h3 : ts.length ≤ 120 := h2; omega) | (rw [PySem.sizeLine_eq]; simp; done)) (by first | (show blkC ["row", "found", "_", "k", "j"] (defScope s_places_of) _ [("_", 2), ("k", 3), ("j", 4)] = true; decide +kernel) | kernel_rfl) (fun s H C cl fp => (pg_tup rfl (pgs_cons (pg_name (i := 2) nd rfl (by first | exact .inl rfl | exact .inr rfl)) (pgs_cons (pg_name (i := 3) nd rfl (by first | exact .inl rfl | exact .inr rfl)) (pgs_cons (pg_name (i := 4) nd rfl (by first | exact .inl rfl | exact .inr rfl)) pgs_nil))))) (fun z hz => (asg_tup (asg_cons asg_name (asg_cons asg_name (asg_cons asg_name asg_nil))) rfl)) (by decide) (fun z hz s H C cl fp => (e_tup2 (f := PyData.int) (g := PyData.int) (dv 3 rfl) (dv 4 rfl))) rfl) ?_
  refine s_env (env' := [_, _, _, _, _]) rfl ?_
  rcases z with ⟨ts, src⟩ | ⟨kk, jj, ts, src⟩
  · skip
    refine c_ifF (c_eqS (m := true) (m1 := true) (m2 := true) (e_ixT (dv 0 rfl) e_int rfl) e_str).2 ?_ ?_
    · rfl
    exact s_last (s_retV 1 rfl (by first | exact .inl rfl | exact .inr (.inl rfl)) rfl (by
            show RS.own _ = RS.own ((plcs _).map _)
            simp only [tmsD, plcs, List.map_map, List.map_cons, List.map_append, List.map_nil, List.cons_append, List.nil_append]
            try rfl))
  · skip
    refine c_ifT (c_eqS (m := true) (m1 := true) (m2 := true) (e_ixT (dv 0 rfl) e_int rfl) e_str).2 ?_ ?_
    · rfl
    exact s_last (s_retO (o_catG (enc := (eT2 PyData.int PyData.int)) (l_o (o_list (a_consG (enc := (eT2 PyData.int PyData.int)) (e_tup2 (f := PyData.int) (g := PyData.int) (e_ixT (dv 0 rfl) e_int rfl) (e_ixT (dv 0 rfl) e_int rfl)) (a_nilG (enc := (eT2 PyData.int PyData.int)))) (by
            first | (have h1 := hp1.1; have h2 := hp1.2; cases z <;> (show (List.map _ _).length ≤ _; rw [List.length_map]; first | exact Nat.le_trans h1 (by decide) | exact Nat.le_trans h2 (by decide))) | (have h2 := hp1.2; rw [PySem.sizeLine_eq]; simp [tmsD]; have h3 : ts.length ≤ 120 := h2; omega) | (rw [PySem.sizeLine_eq]; simp; done)))) (ov 1 rfl) (by
            first | (have h1 := hp1.1; have h2 := hp1.2; cases z <;> (show (List.map _ _).length ≤ _; rw [List.length_map]; first | exact Nat.le_trans h1 (by decide) | exact Nat.le_trans h2 (by decide))) | (have h2 := hp1.2; rw [PySem.sizeLine_eq]; simp [tmsD]; have h3 : ts.length ≤ 120 := h2; omega) | (rw [PySem.sizeLine_eq]; simp; done))) (by
            show RS.own _ = RS.own ((plcs _).map _)
            simp only [tmsD, plcs, List.map_map, List.map_cons, List.map_append, List.map_nil, List.cons_append, List.nil_append]
            try rfl))
/-! ### sizes_of -/
abbrev s_sizes_of : Stmt := topS 6
theorem sc_sizes_of : FnScope ["model", "row", "term"] ["model"] (defScope s_sizes_of) := ⟨rfl, rfl, rfl, by decide +kernel, rfl, by decide +kernel, by decide +kernel⟩
def R_sizes_of (dd : List PyData) (r : RS) : Prop := ∃ (m : ((List Str) × (List Lw))), dd = [((eT2 (eL PyData.str) (eL eLw)) m)] ∧ ((szOf m).length ≤ 1000000) ∧ r = .own ((szOf m).map PyData.str)
theorem ok_sizes_of {P : Program} {w : World} {K : KF} {mg : Str → Option Value} {base : Heap} {k : Nat} (B : Bt mg) (a : At K mg "sizes_of" s_sizes_of ["model"]) : Def P w K mg base (k + 1) "sizes_of" (spD K 1 R_sizes_of) := by
  have nd := sc_sizes_of.nd
  refine a.def fun f fd F => def_ok F sc_sizes_of fun cdv A outer s H E ds r hr hl hR => ?_
  obtain ⟨m, rfl, hp1, rfl⟩ := hR
  show PSs _ _ (tS K [.dat ((eT2 (eL PyData.str) (eL eLw)) m), .no, .no] _)
  exact s_last (s_retO (o_lc2G (encC := PyData.str) (enc := eLw) (encB := (eT3 PyData.str PyData.int PyData.int)) (own := [("row", 1), ("term", 2)]) (g := gName 1) (ix := [1]) (f := fun z env => (env.set 1 (.dat (eLw z)))) (g1 := gName 2) (ix1 := [2]) (f1 := fun w env => (env.set 2 (.dat ((eT3 PyData.str PyData.int PyData.int) w)))) (vs1 := [2]) (tb1 := fun _ _ => true) nd (i_list (e_ixT (dv 0 rfl) e_int rfl)) (by
          exact hp1) (by first | (show blkC ["model", "row", "term"] (defScope s_sizes_of) _ [("row", 1), ("term", 2)] = true; decide +kernel) | kernel_rfl) (by decide) (fun s H C cl fp => (pg_name (i := 1) nd rfl (by first | exact .inl rfl | exact .inr rfl))) (fun s H C cl fp => (pg_name (i := 2) nd rfl (by first | exact .inl rfl | exact .inr rfl))) (fun z hz => asgm_name) (by decide) (fun z hz w hw => asg_name) (by decide) (fun z hz s H C cl fp => ts_one (c_eqS (m := true) (m1 := true) (m2 := true) (e_ixTE (dv 1 rfl) e_int (lw_kind _)) e_str).2) (fun z hz hq s H C cl fp => (i_list (e_ixTE (dv 1 rfl) e_int (lw_sts (of_decide_eq_true hq))))) (fun z hz w hw s H C cl fp => ts_nil) (fun z hz w hw hq1 s H C cl fp => (e_ixT (dv 2 rfl) e_int rfl))) (by
          rfl))
/-! ### power -/
abbrev s_power : Stmt := topS 7
theorem sc_power : FnScope ["row", "quantity", "orders", "k", "j"] ["row", "quantity"] (defScope s_power) := ⟨rfl, rfl, rfl, by decide +kernel, rfl, by decide +kernel, by decide +kernel⟩
def R_power (dd : List PyData) (r : RS) : Prop := ∃ (z : Lw) (q : Int), dd = [(eLw z), (.int q)] ∧ (TmL z) ∧ r = .dat ((eO PyData.int) (pwr z q))
theorem ok_power {P : Program} {w : World} {K : KF} {mg : Str → Option Value} {base : Heap} {k : Nat} (B : Bt mg) (D_places_of : Def P w K mg base k "places_of" (spD K 1 R_places_of)) (a : At K mg "power" s_power ["row", "quantity"]) : Def P w K mg base (k + 1) "power" (spD K 2 R_power) := by
  have nd := sc_power.nd
  refine a.def fun f fd F => def_ok F sc_power fun cdv A outer s H E ds r hr hl hR => ?_
  obtain ⟨z, q, rfl, hp1, rfl⟩ := hR
  show PSs _ _ (tS K [.dat (eLw z), .dat (.int q), .no, .no, .no] _)
  refine s_then (s_setLcT (enc := (eT2 PyData.int PyData.int)) (encB := PyData.int) (own := [("k", 3), ("j", 4)]) (g := gTup _ 2 (gCons (gName 3) (gCons (gName 4) gNil))) (ix := [3, 4]) (f := (fun z env => ((env.set 3 (.dat (.int z.1))).set 4 (.dat (.int z.2))))) 2 nd rfl (i_list (e_o (o_call D_places_of hr (a_cons (m := true) (dv 0 rfl) (a_nil (m := true))) rfl ⟨_, rfl, (by
          exact hp1), rfl⟩))) (by
          (have h1 := plcs_len hp1; omega)) (by first | (show blkC ["row", "quantity", "orders", "k", "j"] (defScope s_power) _ [("k", 3), ("j", 4)] = true; decide +kernel) | kernel_rfl) (fun s H C cl fp => (pg_tup rfl (pgs_cons (pg_name (i := 3) nd rfl (by first | exact .inl rfl | exact .inr rfl)) (pgs_cons (pg_name (i := 4) nd rfl (by first | exact .inl rfl | exact .inr rfl)) pgs_nil)))) (fun z hz => (asg_tup (asg_cons asg_name (asg_cons asg_name asg_nil)) rfl)) (by decide) (fun z hz s H C cl fp => ts_one (c_eqI (m := true) (dv 4 rfl) (dv 1 rfl)).2) (fun z hz hq s H C cl fp => (dv 3 rfl)) rfl) ?_
  refine s_frz (i := 2) rfl ?_
  refine s_env (env' := [_, _, _, _, _]) rfl ?_
  refine s_fork (s_if (c_eqI (m := true) (e_lenG (enc := PyData.int) B.len (l_e (dv 2 rfl))) e_int).2 (fun hb22 => ?_) (fun hb22 => ?_))
  · walk_at "hb"
    exact s_last (s_ret e_non (by
            show RS.dat _ = RS.dat (eO PyData.int (pwr z q))
            unfold pwr
            first
            | (rw [if_pos (show ords z q = [] from List.length_eq_zero_iff.mp (by have h := of_decide_eq_true hb22; exact Int.ofNat.inj h))]; rfl)
            | (rw [if_neg (show ¬ ords z q = [] from fun w => (of_decide_eq_false hb22) (by show (((ords z q).length : Nat) : Int) = 0; rw [w]; rfl))]; rfl)))
  · walk_at "hb"
    refine s_nil ?_
    exact s_last (s_ret (e_maxL B.max (l_e (dv 2 rfl)) (by
            (have h := of_decide_eq_false hb22; exact fun w => h (by show (((ords z q).length : Nat) : Int) = 0; rw [show ords z q = [] from w]; rfl)))) (by
            show RS.dat _ = RS.dat (eO PyData.int (pwr z q))
            unfold pwr
            first
            | (rw [if_pos (show ords z q = [] from List.length_eq_zero_iff.mp (by have h := of_decide_eq_true hb22; exact Int.ofNat.inj h))]; rfl)
            | (rw [if_neg (show ¬ ords z q = [] from fun w => (of_decide_eq_false hb22) (by show (((ords z q).length : Nat) : Int) = 0; rw [w]; rfl))]; rfl)))
/-! ### powers -/
abbrev s_powers : Stmt := topS 8
theorem sc_powers : FnScope ["model", "quantities", "laws", "row", "j"] ["model"] (defScope s_powers) := ⟨rfl, rfl, rfl, by decide +kernel, rfl, by decide +kernel, by decide +kernel⟩
def R_powers (dd : List PyData) (r : RS) : Prop := ∃ (m : ((List Str) × (List Lw))), dd = [((eT2 (eL PyData.str) (eL eLw)) m)] ∧ (FitM m) ∧ r = .tre ((nT (nT (lf (eO PyData.int)))) (pwrs m))
theorem ok_powers {P : Program} {w : World} {K : KF} {mg : Str → Option Value} {base : Heap} {k : Nat} (B : Bt mg) (D_power : Def P w K mg base k "power" (spD K 2 R_power)) (a : At K mg "powers" s_powers ["model"]) : Def P w K mg base (k + 1) "powers" (spD K 1 R_powers) := by
  have nd := sc_powers.nd
  refine a.def fun f fd F => def_ok F sc_powers fun cdv A outer s H E ds r hr hl hR => ?_
  obtain ⟨m, rfl, hp1, rfl⟩ := hR
  have h30 := hp1.1
  have h40 := hp1.2.1
  show PSs _ _ (tS K [.dat ((eT2 (eL PyData.str) (eL eLw)) m), .no, .no, .no, .no] _)
  refine s_then (s_unpk (dv 0 rfl) (pg_tup rfl (pgs_cons (pg_name (i := 1) nd rfl (by first | exact .inl rfl | exact .inr rfl)) (pgs_cons (pg_name (i := 2) nd rfl (by first | exact .inl rfl | exact .inr rfl)) pgs_nil))) (asg_tup (asg_cons asg_name (asg_cons asg_name asg_nil)) rfl) rfl) ?_
  refine s_env (env' := [_, _, _, _, _]) rfl ?_
  exact s_last (s_retTr (tr_lcA (enc := eLw) (own := [("row", 3)]) (g := gName 3) (ix := [3]) (f := (fun z env => (env.set 3 (.dat (eLw z))))) nd (i_list (dv 2 rfl)) (by
          first | omega | (rw [List.length_range]; omega) | skip) (by first | (show blkC ["model", "quantities", "laws", "row", "j"] (defScope s_powers) _ [("row", 3)] = true; decide +kernel) | kernel_rfl) (fun s H C cl fp => (pg_name (i := 3) nd rfl (by first | exact .inl rfl | exact .inr rfl))) (fun z hz => asg_name) (by decide) (fun z hz s H C cl fp => (tr_oG (enc := (eO PyData.int)) (o_lcTA (enc := (fun z => (fun (k : Nat) => PyData.int (k : Int)) z)) (encB := (eO PyData.int)) (own := [("j", 4)]) (g := gName 4) (ix := [4]) (f := (fun z env => (env.set 4 (.dat ((fun (k : Nat) => PyData.int (k : Int)) z))))) nd (i_rngN B.range (e_lenG (enc := PyData.str) B.len (l_e (dv 1 rfl))) (by
          first | omega | skip)) (by
          first | omega | (rw [List.length_range]; omega) | skip) (by first | (show blkC ["model", "quantities", "laws", "row", "j"] (defScope s_powers) _ [("j", 4)] = true; decide +kernel) | kernel_rfl) (fun s H C cl fp => (pg_name (i := 4) nd rfl (by first | exact .inl rfl | exact .inr rfl))) (fun z hz => asg_name) (by decide) (fun z hz s H C cl fp => (e_call D_power hr (a_cons (m := true) (dv 3 rfl) (a_cons (m := true) (dv 4 rfl) (a_nil (m := true)))) rfl ⟨_, _, rfl, (by
          first | exact (hp1.2.2 _ hz).1 | exact (hp1.2.2 _ (by assumption)).1), rfl⟩))) (by
          first | (rw [List.length_map, List.length_range]; omega) | skip)))) (by
          show RS.tre _ = RS.tre (nT _ (pwrs m))
          unfold pwrs
          rw [← nT_map]
          rfl))
/-! ### exact_row -/
abbrev s_exact_row : Stmt := topS 9
theorem sc_exact_row : FnScope ["row", "many", "found", "number", "k", "j", "_", "element"] ["row", "many"] (defScope s_exact_row) := ⟨rfl, rfl, rfl, by decide +kernel, rfl, by decide +kernel, by decide +kernel⟩
def R_exact_row (dd : List PyData) (r : RS) : Prop := ∃ (z : Lw) (n : Int), dd = [(eLw z), (.int n)] ∧ (isE z = true ∧ FitL n.toNat z ∧ 0 ≤ n ∧ n ≤ 30) ∧ r = .tre ((nT (nT (lf PyData.int))) ((fun (z : Lw) (n : Int) => exRow z.ets n) z n))
theorem ok_exact_row {P : Program} {w : World} {K : KF} {mg : Str → Option Value} {base : Heap} {k : Nat} (B : Bt mg) (D_trimmed : Def P w K mg base k "trimmed" (spD K 1 R_trimmed)) (T : Tc K mg) (a : At K mg "exact_row" s_exact_row ["row", "many"]) : Def P w K mg base (k + 1) "exact_row" (spD K 2 R_exact_row) := by
  have nd := sc_exact_row.nd
  refine a.def fun f fd F => def_ok F sc_exact_row fun cdv A outer s H E ds r hr hl hR => ?_
  obtain ⟨z, n, rfl, hp1, rfl⟩ := hR
  obtain ⟨hk, ⟨htm, hfp⟩, hn0, hn⟩ := hp1
  have hk2 : isE z = true := hk
  show PSs _ _ (tS K [.dat (eLw z), .dat (.int n), .no, .no, .no, .no, .no, .no] _)
  refine s_then (s_setTabLc (enc := (fun z => (fun (k : Nat) => PyData.int (k : Int)) z)) (encB := PyData.int) (own := [("_", 6)]) (g := gName 6) (ix := [6]) (f := (fun z env => (env.set 6 (.dat ((fun (k : Nat) => PyData.int (k : Int)) z))))) (nn := 1000) (m := 4) 1 2 nd rfl (i_rngN B.range (dv 1 rfl) (by
          first | omega | decide | skip)) (by
          first | omega | (rw [List.length_range]; omega) | (rw [PySem.sizeLine_eq]; simp; done) | (rw [PySem.sizeLine_eq]; decide) | skip) (by
          (intro r hr; rw [List.length_replicate]; decide)) (by
          (first | omega | (rw [List.length_range]; omega))) (by first | (show blkC ["row", "many", "found", "number", "k", "j", "_", "element"] (defScope s_exact_row) _ [("_", 6)] = true; decide +kernel) | kernel_rfl) (fun s H C cl fp => (pg_name (i := 6) nd rfl (by first | exact .inl rfl | exact .inr rfl))) (fun z hz => asg_name) (by decide) (fun z hz s H C cl fp => (o_rep1 e_int (e_add (e_globI T.MOST_ORDER) e_int) (by
          first | omega | decide | skip) (by
          first | omega | decide | skip) (by
          first | omega | (rw [List.length_range]; omega) | (rw [PySem.sizeLine_eq]; simp; done) | (rw [PySem.sizeLine_eq]; decide) | skip))) (by decide) (.inr (.inl ⟨rfl, rfl⟩)) rfl) ?_
  refine s_env (env' := [_, _, _, _, _, _, _, _]) rfl ?_
  refine c_forT (enc := (eT3 PyData.int PyData.int PyData.int)) (f := fun z env => (((env.set 3 (.dat (.int z.1))).set 4 (.dat (.int z.2.1))).set 5 (.dat (.int z.2.2)))) (ix := [3, 4, 5]) (fun i => [(2, .tab 1 0 1000 4 ((itl exS (z40 n) z.ets i).map (fun z => z.map PyData.int))), (3, .no), (4, .no), (5, .no)]) PassesOwn.never (i_list (e_ixTE (dv 0 rfl) e_int (lw_ets (of_decide_eq_true hk2)))) (pg_tup rfl (pgs_cons (pg_name (i := 3) nd rfl (by first | exact .inl rfl | exact .inr rfl)) (pgs_cons (pg_name (i := 4) nd rfl (by first | exact .inl rfl | exact .inr rfl)) (pgs_cons (pg_name (i := 5) nd rfl (by first | exact .inl rfl | exact .inr rfl)) pgs_nil)))) (fun z hz => (asg_tup (asg_cons asg_name (asg_cons asg_name (asg_cons asg_name asg_nil))) rfl)) (fun z e1 e2 h => LeE.set_ (LeE.set_ (LeE.set_ (h)))) ⟨.inr rfl, ⟨.inr rfl, ⟨.inr (by
          rfl), ⟨.inl rfl, ⟨.inl rfl, ⟨.inl rfl, ⟨.inr rfl, ⟨.inr rfl, trivial⟩⟩⟩⟩⟩⟩⟩⟩ (fun i1 z1 hz1 => ?_) ?_
  · have hfx := hfp _ (ets_mem (List.mem_of_getElem? hz1))
    have hfl : (itl exS (z40 n) z.ets i1).length = n.toNat := by unfold itl; rw [exF_len n, z40_len]
    have hfr : ((itl exS (z40 n) z.ets i1).getD z1.2.2.toNat []).length = 4 := row_at (by unfold itl; exact exF_row _ _ (z40_row n)) (by omega)
    refine s_env (env' := [_, _, _, _, _, _, _, _]) rfl ?_
    refine s_then (s_setIx2 (enc := PyData.int) 2 rfl (by first | exact .inl rfl | exact .inr (.inl rfl)) rfl (dv 3 rfl) (dv 5 rfl) (dv 4 rfl) (by
            first | omega | skip) (by
            first | omega | skip) rfl rfl) ?_
    refine s_env (env' := [_, _, _, _, _, _, _, _]) rfl ?_
    refine s_nil ⟨.inr rfl, ⟨.inr rfl, ⟨.inr (by
            rw [itl_succ hz1]; rfl), ⟨.inl rfl, ⟨.inl rfl, ⟨.inl rfl, ⟨.inr rfl, ⟨.inr rfl, trivial⟩⟩⟩⟩⟩⟩⟩⟩
  refine s_env (env' := [_, _, _, _, _, _, _, _]) rfl ?_
  rw [itl_all]
  have hfr2 := exF_row z.ets _ (z40_row n)
  have hfl2 := exF_len n z.ets (z40 n)
  rw [z40_len] at hfl2
  refine s_tabOwn (enc := PyData.int) 2 rfl rfl ?_
  refine s_env (env' := [_, _, _, _, _, _, _, _]) rfl ?_
  refine s_frz (i := 2) rfl ?_
  exact s_last (s_retTr (tr_lcA (enc := (eL PyData.int)) (own := [("element", 7)]) (g := gName 7) (ix := [7]) (f := (fun z env => (env.set 7 (.dat ((eL PyData.int) z))))) nd (i_list (dv 2 rfl)) (by
          first | omega | (rw [List.length_range]; omega) | (rw [PySem.sizeLine_eq]; simp; done) | (rw [PySem.sizeLine_eq]; decide) | skip) (by first | (show blkC ["row", "many", "found", "number", "k", "j", "_", "element"] (defScope s_exact_row) _ [("element", 7)] = true; decide +kernel) | kernel_rfl) (fun s H C cl fp => (pg_name (i := 7) nd rfl (by first | exact .inl rfl | exact .inr rfl))) (fun z hz => asg_name) (by decide) (fun z hz s H C cl fp => (tr_oG (enc := PyData.int) (o_call D_trimmed hr (a_cons (m := true) (dv 7 rfl) (a_nil (m := true))) rfl ⟨_, rfl, rfl⟩) (by
          (have h9 := hfr2 _ hz; exact Nat.le_trans (trim_len _) (by omega)))))) (by
          show RS.tre _ = RS.tre (nT _ (exRow z.ets n))
          unfold exRow
          rw [← nT_map]
          rfl))
/-! ### exact_table -/
abbrev s_exact_table : Stmt := topS 10
theorem sc_exact_table : FnScope ["model", "quantities", "laws", "row"] ["model"] (defScope s_exact_table) := ⟨rfl, rfl, rfl, by decide +kernel, rfl, by decide +kernel, by decide +kernel⟩
def R_exact_table (dd : List PyData) (r : RS) : Prop := ∃ (m : ((List Str) × (List Lw))), dd = [((eT2 (eL PyData.str) (eL eLw)) m)] ∧ (FitM m) ∧ r = .tre ((nT (nT (nT (lf PyData.int)))) (exTab m))
theorem ok_exact_table {P : Program} {w : World} {K : KF} {mg : Str → Option Value} {base : Heap} {k : Nat} (B : Bt mg) (D_exact_row : Def P w K mg base k "exact_row" (spD K 2 R_exact_row)) (a : At K mg "exact_table" s_exact_table ["model"]) : Def P w K mg base (k + 1) "exact_table" (spD K 1 R_exact_table) := by
  have nd := sc_exact_table.nd
  refine a.def fun f fd F => def_ok F sc_exact_table fun cdv A outer s H E ds r hr hl hR => ?_
  obtain ⟨m, rfl, hp1, rfl⟩ := hR
  have h30 := hp1.1
  have h40 := hp1.2.1
  show PSs _ _ (tS K [.dat ((eT2 (eL PyData.str) (eL eLw)) m), .no, .no, .no] _)
  refine s_then (s_unpk (dv 0 rfl) (pg_tup rfl (pgs_cons (pg_name (i := 1) nd rfl (by first | exact .inl rfl | exact .inr rfl)) (pgs_cons (pg_name (i := 2) nd rfl (by first | exact .inl rfl | exact .inr rfl)) pgs_nil))) (asg_tup (asg_cons asg_name (asg_cons asg_name asg_nil)) rfl) rfl) ?_
  refine s_env (env' := [_, _, _, _]) rfl ?_
  exact s_last (s_retTr (tr_lc (enc := eLw) (own := [("row", 3)]) (g := gName 3) (ix := [3]) (f := (fun z env => (env.set 3 (.dat (eLw z))))) nd (i_list (dv 2 rfl)) (by
          first | omega | skip) (by first | (show blkC ["model", "quantities", "laws", "row"] (defScope s_exact_table) _ [("row", 3)] = true; decide +kernel) | kernel_rfl) (fun s H C cl fp => (pg_name (i := 3) nd rfl (by first | exact .inl rfl | exact .inr rfl))) (fun z hz => asg_name) (by decide) (fun z hz s H C cl fp => ts_one (c_eqS (m := true) (m1 := true) (m2 := true) (e_ixTE (dv 3 rfl) e_int (lw_kind _)) e_str).2) (fun z hz hq s H C cl fp => (tr_call D_exact_row hr (a_cons (m := true) (dv 3 rfl) (a_cons (m := true) (e_lenG (enc := PyData.str) B.len (l_e (dv 1 rfl))) (a_nil (m := true)))) rfl ⟨_, _, rfl, (by
          exact ⟨hq, by rw [Int.toNat_natCast]; exact hp1.2.2 _ hz, by omega, by omega⟩), rfl⟩))) (by
          show RS.tre _ = RS.tre (nT _ (exTab m))
          unfold exTab
          rw [← nT_map]
          rfl))
/-! ### meetings -/
abbrev s_meetings : Stmt := topS 11
theorem sc_meetings : FnScope ["model", "row", "_", "j"] ["model"] (defScope s_meetings) := ⟨rfl, rfl, rfl, by decide +kernel, rfl, by decide +kernel, by decide +kernel⟩
def R_meetings (dd : List PyData) (r : RS) : Prop := ∃ (m : ((List Str) × (List Lw))), dd = [((eT2 (eL PyData.str) (eL eLw)) m)] ∧ (FitM m) ∧ r = .tre ((nT (nT (lf PyData.int))) (mets m))
theorem ok_meetings {P : Program} {w : World} {K : KF} {mg : Str → Option Value} {base : Heap} {k : Nat} (B : Bt mg) (D_places_of : Def P w K mg base k "places_of" (spD K 1 R_places_of)) (a : At K mg "meetings" s_meetings ["model"]) : Def P w K mg base (k + 1) "meetings" (spD K 1 R_meetings) := by
  have nd := sc_meetings.nd
  refine a.def fun f fd F => def_ok F sc_meetings fun cdv A outer s H E ds r hr hl hR => ?_
  obtain ⟨m, rfl, hp1, rfl⟩ := hR
  have h30 := hp1.1
  have h40 := hp1.2.1
  show PSs _ _ (tS K [.dat ((eT2 (eL PyData.str) (eL eLw)) m), .no, .no, .no] _)
  exact s_last (s_retTr (tr_lc (enc := eLw) (own := [("row", 1)]) (g := gName 1) (ix := [1]) (f := (fun z env => (env.set 1 (.dat (eLw z))))) nd (i_list (e_ixT (dv 0 rfl) e_int rfl)) (by
          first | omega | (have h9 := plcs_len (hp1.2.2 _ (by assumption)).1; omega) | skip) (by first | (show blkC ["model", "row", "_", "j"] (defScope s_meetings) _ [("row", 1)] = true; decide +kernel) | kernel_rfl) (fun s H C cl fp => (pg_name (i := 1) nd rfl (by first | exact .inl rfl | exact .inr rfl))) (fun z hz => asg_name) (by decide) (fun z hz s H C cl fp => ts_one (c_eqS (m := true) (m1 := true) (m2 := true) (e_ixTE (dv 1 rfl) e_int (lw_kind _)) e_str).2) (fun z hz hq s H C cl fp => (tr_oG (enc := PyData.int) (o_sortedSet B.sorted B.set (l_o (o_lcTA (enc := (eT2 PyData.int PyData.int)) (encB := PyData.int) (own := [("_", 2), ("j", 3)]) (g := gTup _ 2 (gCons (gName 2) (gCons (gName 3) gNil))) (ix := [2, 3]) (f := (fun z env => ((env.set 2 (.dat (.int z.1))).set 3 (.dat (.int z.2))))) nd (i_list (e_o (o_call D_places_of hr (a_cons (m := true) (dv 1 rfl) (a_nil (m := true))) rfl ⟨_, rfl, (by
          exact (hp1.2.2 _ (by assumption)).1), rfl⟩))) (by
          first | omega | (have h9 := plcs_len (hp1.2.2 _ (by assumption)).1; omega) | skip) (by first | (show blkC ["model", "row", "_", "j"] (defScope s_meetings) _ [("_", 2), ("j", 3)] = true; decide +kernel) | kernel_rfl) (fun s H C cl fp => (pg_tup rfl (pgs_cons (pg_name (i := 2) nd rfl (by first | exact .inl rfl | exact .inr rfl)) (pgs_cons (pg_name (i := 3) nd rfl (by first | exact .inl rfl | exact .inr rfl)) pgs_nil)))) (fun z hz => (asg_tup (asg_cons asg_name (asg_cons asg_name asg_nil)) rfl)) (by decide) (fun z hz s H C cl fp => (dv 3 rfl)))) (by
          (have h9 := plcs_len (hp1.2.2 _ (by assumption)).1; exact ⟨by rw [List.length_map]; omega, Nat.lt_of_le_of_lt (mets_len (hp1.2.2 _ (by assumption)).2) (by omega)⟩))) (by
          exact Nat.le_trans (mets_len (hp1.2.2 _ (by assumption)).2) (by omega))))) (by
          show RS.tre _ = RS.tre (nT _ (mets m))
          unfold mets
          rw [← nT_map]
          rfl))
/-! ### exact_laws -/
abbrev s_exact_laws : Stmt := topS 12
theorem sc_exact_laws : FnScope ["model", "i"] ["model"] (defScope s_exact_laws) := ⟨rfl, rfl, rfl, by decide +kernel, rfl, by decide +kernel, by decide +kernel⟩
def R_exact_laws (dd : List PyData) (r : RS) : Prop := ∃ (m : ((List Str) × (List Lw))), dd = [((eT2 (eL PyData.str) (eL eLw)) m)] ∧ (m.2.length ≤ 1000) ∧ r = .own ((eLaws m).map PyData.int)
theorem ok_exact_laws {P : Program} {w : World} {K : KF} {mg : Str → Option Value} {base : Heap} {k : Nat} (B : Bt mg) (a : At K mg "exact_laws" s_exact_laws ["model"]) : Def P w K mg base (k + 1) "exact_laws" (spD K 1 R_exact_laws) := by
  have nd := sc_exact_laws.nd
  refine a.def fun f fd F => def_ok F sc_exact_laws fun cdv A outer s H E ds r hr hl hR => ?_
  obtain ⟨m, rfl, hp1, rfl⟩ := hR
  show PSs _ _ (tS K [.dat ((eT2 (eL PyData.str) (eL eLw)) m), .no] _)
  exact s_last (s_retO (o_lcT (enc := (fun z => (fun (k : Nat) => PyData.int (k : Int)) z)) (encB := PyData.int) (own := [("i", 1)]) (g := gName 1) (ix := [1]) (f := (fun z env => (env.set 1 (.dat ((fun (k : Nat) => PyData.int (k : Int)) z))))) nd (i_rngN B.range (e_lenG (enc := eLw) B.len (l_e (e_ixT (dv 0 rfl) e_int rfl))) (by
          first | omega | skip)) (by
          first | omega | (rw [List.length_range]; omega)) (by first | (show blkC ["model", "i"] (defScope s_exact_laws) _ [("i", 1)] = true; decide +kernel) | kernel_rfl) (fun s H C cl fp => (pg_name (i := 1) nd rfl (by first | exact .inl rfl | exact .inr rfl))) (fun z hz => asg_name) (by decide) (fun z hz s H C cl fp => ts_one (c_eqS (m := true) (m1 := true) (m2 := true) (e_ixTE (e_ixG (enc := eLw) default (l_e (e_ixT (dv 0 rfl) e_int rfl)) (dv 1 rfl) (by
          (simp only [List.mem_range] at hz; omega))) e_int (lw_kind _)) e_str).2) (fun z hz hq s H C cl fp => (dv 1 rfl))) (by
          rfl))
/-! ### sized_laws -/
abbrev s_sized_laws : Stmt := topS 13
theorem sc_sized_laws : FnScope ["model", "i"] ["model"] (defScope s_sized_laws) := ⟨rfl, rfl, rfl, by decide +kernel, rfl, by decide +kernel, by decide +kernel⟩
def R_sized_laws (dd : List PyData) (r : RS) : Prop := ∃ (m : ((List Str) × (List Lw))), dd = [((eT2 (eL PyData.str) (eL eLw)) m)] ∧ (m.2.length ≤ 1000) ∧ r = .own ((zLaws m).map PyData.int)
theorem ok_sized_laws {P : Program} {w : World} {K : KF} {mg : Str → Option Value} {base : Heap} {k : Nat} (B : Bt mg) (a : At K mg "sized_laws" s_sized_laws ["model"]) : Def P w K mg base (k + 1) "sized_laws" (spD K 1 R_sized_laws) := by
  have nd := sc_sized_laws.nd
  refine a.def fun f fd F => def_ok F sc_sized_laws fun cdv A outer s H E ds r hr hl hR => ?_
  obtain ⟨m, rfl, hp1, rfl⟩ := hR
  show PSs _ _ (tS K [.dat ((eT2 (eL PyData.str) (eL eLw)) m), .no] _)
  exact s_last (s_retO (o_lcT (enc := (fun z => (fun (k : Nat) => PyData.int (k : Int)) z)) (encB := PyData.int) (own := [("i", 1)]) (g := gName 1) (ix := [1]) (f := (fun z env => (env.set 1 (.dat ((fun (k : Nat) => PyData.int (k : Int)) z))))) nd (i_rngN B.range (e_lenG (enc := eLw) B.len (l_e (e_ixT (dv 0 rfl) e_int rfl))) (by
          first | omega | skip)) (by
          first | omega | (rw [List.length_range]; omega)) (by first | (show blkC ["model", "i"] (defScope s_sized_laws) _ [("i", 1)] = true; decide +kernel) | kernel_rfl) (fun s H C cl fp => (pg_name (i := 1) nd rfl (by first | exact .inl rfl | exact .inr rfl))) (fun z hz => asg_name) (by decide) (fun z hz s H C cl fp => ts_one (c_eqS (m := true) (m1 := true) (m2 := true) (e_ixTE (e_ixG (enc := eLw) default (l_e (e_ixT (dv 0 rfl) e_int rfl)) (dv 1 rfl) (by
          (simp only [List.mem_range] at hz; omega))) e_int (lw_kind _)) e_str).2) (fun z hz hq s H C cl fp => (dv 1 rfl))) (by
          rfl))
/-! ### _law_places_of -/
abbrev s__law_places_of : Stmt := topS 23
theorem sc__law_places_of : FnScope ["law", "number", "k", "j", "size"] ["law"] (defScope s__law_places_of) := ⟨rfl, rfl, rfl, by decide +kernel, rfl, by decide +kernel, by decide +kernel⟩
def R__law_places_of (dd : List PyData) (r : RS) : Prop := ∃ (z : Lw), dd = [(eLw z)] ∧ (TmL z) ∧ r = .own ((plcs z).map (eT2 PyData.int PyData.int))
theorem ok__law_places_of {P : Program} {w : World} {K : KF} {mg : Str → Option Value} {base : Heap} {k : Nat} (B : Bt mg) (a : At K mg "_law_places_of" s__law_places_of ["law"]) : Def P w K mg base (k + 1) "_law_places_of" (spD K 1 R__law_places_of) := by
  have nd := sc__law_places_of.nd
  refine a.def fun f fd F => def_ok F sc__law_places_of fun cdv A outer s H E ds r hr hl hR => ?_
  obtain ⟨z, rfl, hp1, rfl⟩ := hR
  show PSs _ _ (tS K [.dat (eLw z), .no, .no, .no, .no] _)
  rcases z with ⟨ts, src⟩ | ⟨kk, jj, ts, src⟩
  · skip
    refine c_ifT (c_eqS (m := true) (m1 := true) (m2 := true) (e_ixT (dv 0 rfl) e_int rfl) e_str).2 ?_ ?_
    · rfl
    exact s_last (s_retO (o_lcTA (enc := (eT3 PyData.int PyData.int PyData.int)) (encB := (eT2 PyData.int PyData.int)) (own := [("number", 1), ("k", 2), ("j", 3)]) (g := gTup _ 3 (gCons (gName 1) (gCons (gName 2) (gCons (gName 3) gNil)))) (ix := [1, 2, 3]) (f := (fun z env => (((env.set 1 (.dat (.int z.1))).set 2 (.dat (.int z.2.1))).set 3 (.dat (.int z.2.2))))) nd (i_list (e_ixT (dv 0 rfl) e_int rfl)) (by
            first | (have h2 : ts.length ≤ 120 := hp1.1; omega) | (have h2 : ts.length ≤ 120 := hp1.2; omega) | (have h2 : ts.length ≤ 120 := hp1.2; rw [PySem.sizeLine_eq, List.length_map]; simp; omega) | (rw [PySem.sizeLine_eq]; simp; done)) (by first | (show blkC ["law", "number", "k", "j", "size"] (defScope s__law_places_of) _ [("number", 1), ("k", 2), ("j", 3)] = true; decide +kernel) | kernel_rfl) (fun s H C cl fp => (pg_tup rfl (pgs_cons (pg_name (i := 1) nd rfl (by first | exact .inl rfl | exact .inr rfl)) (pgs_cons (pg_name (i := 2) nd rfl (by first | exact .inl rfl | exact .inr rfl)) (pgs_cons (pg_name (i := 3) nd rfl (by first | exact .inl rfl | exact .inr rfl)) pgs_nil))))) (fun z hz => (asg_tup (asg_cons asg_name (asg_cons asg_name (asg_cons asg_name asg_nil))) rfl)) (by decide) (fun z hz s H C cl fp => (e_tup2 (f := PyData.int) (g := PyData.int) (dv 2 rfl) (dv 3 rfl)))) (by
            show RS.own _ = RS.own ((plcs _).map _)
            simp only [plcs, List.map_map, List.map_cons, List.map_append, List.map_nil, List.cons_append, List.nil_append]
            try rfl))
  · skip
    refine c_ifF (c_eqS (m := true) (m1 := true) (m2 := true) (e_ixT (dv 0 rfl) e_int rfl) e_str).2 ?_ ?_
    · rfl
    exact s_last (s_retO (o_catG (enc := (eT2 PyData.int PyData.int)) (l_o (o_list (a_consG (enc := (eT2 PyData.int PyData.int)) (e_tup2 (f := PyData.int) (g := PyData.int) (e_ixT (dv 0 rfl) e_int rfl) (e_ixT (dv 0 rfl) e_int rfl)) (a_nilG (enc := (eT2 PyData.int PyData.int)))) (by
            first | (have h2 : ts.length ≤ 120 := hp1.1; omega) | (have h2 : ts.length ≤ 120 := hp1.2; omega) | (have h2 : ts.length ≤ 120 := hp1.2; rw [PySem.sizeLine_eq, List.length_map]; simp; omega) | (rw [PySem.sizeLine_eq]; simp; done)))) (l_o (o_lcTA (enc := (eT3 PyData.str PyData.int PyData.int)) (encB := (eT2 PyData.int PyData.int)) (own := [("size", 4), ("k", 2), ("j", 3)]) (g := gTup _ 3 (gCons (gName 4) (gCons (gName 2) (gCons (gName 3) gNil)))) (ix := [4, 2, 3]) (f := (fun z env => (((env.set 4 (.dat (.str z.1))).set 2 (.dat (.int z.2.1))).set 3 (.dat (.int z.2.2))))) nd (i_list (e_ixT (dv 0 rfl) e_int rfl)) (by
            first | (have h2 : ts.length ≤ 120 := hp1.1; omega) | (have h2 : ts.length ≤ 120 := hp1.2; omega) | (have h2 : ts.length ≤ 120 := hp1.2; rw [PySem.sizeLine_eq, List.length_map]; simp; omega) | (rw [PySem.sizeLine_eq]; simp; done)) (by first | (show blkC ["law", "number", "k", "j", "size"] (defScope s__law_places_of) _ [("size", 4), ("k", 2), ("j", 3)] = true; decide +kernel) | kernel_rfl) (fun s H C cl fp => (pg_tup rfl (pgs_cons (pg_name (i := 4) nd rfl (by first | exact .inl rfl | exact .inr rfl)) (pgs_cons (pg_name (i := 2) nd rfl (by first | exact .inl rfl | exact .inr rfl)) (pgs_cons (pg_name (i := 3) nd rfl (by first | exact .inl rfl | exact .inr rfl)) pgs_nil))))) (fun z hz => (asg_tup (asg_cons asg_name (asg_cons asg_name (asg_cons asg_name asg_nil))) rfl)) (by decide) (fun z hz s H C cl fp => (e_tup2 (f := PyData.int) (g := PyData.int) (dv 2 rfl) (dv 3 rfl))))) (by
            first | (have h2 : ts.length ≤ 120 := hp1.1; omega) | (have h2 : ts.length ≤ 120 := hp1.2; omega) | (have h2 : ts.length ≤ 120 := hp1.2; rw [PySem.sizeLine_eq, List.length_map]; simp; omega) | (rw [PySem.sizeLine_eq]; simp; done))) (by
            show RS.own _ = RS.own ((plcs _).map _)
            simp only [plcs, List.map_map, List.map_cons, List.map_append, List.map_nil, List.cons_append, List.nil_append]
            try rfl))
/-! ### _law_powers -/
abbrev s__law_powers : Stmt := topS 24
theorem sc__law_powers : FnScope ["model", "rows", "law", "row", "k", "j", "name"] ["model"] (defScope s__law_powers) := ⟨rfl, rfl, rfl, by decide +kernel, rfl, by decide +kernel, by decide +kernel⟩
def R__law_powers (dd : List PyData) (r : RS) : Prop := ∃ (m : ((List Str) × (List Lw))), dd = [((eT2 (eL PyData.str) (eL eLw)) m)] ∧ (FitM m) ∧ r = .own ((lpwrs m).map (eL (eO PyData.int)))
theorem ok__law_powers {P : Program} {w : World} {K : KF} {mg : Str → Option Value} {base : Heap} {k : Nat} (B : Bt mg) (D__law_places_of : Def P w K mg base k "_law_places_of" (spD K 1 R__law_places_of)) (a : At K mg "_law_powers" s__law_powers ["model"]) : Def P w K mg base (k + 1) "_law_powers" (spD K 1 R__law_powers) := by
  have nd := sc__law_powers.nd
  refine a.def fun f fd F => def_ok F sc__law_powers fun cdv A outer s H E ds r hr hl hR => ?_
  obtain ⟨m, rfl, hp1, rfl⟩ := hR
  have h30 := hp1.1
  have h40 := hp1.2.1
  show PSs _ _ (tS K [.dat ((eT2 (eL PyData.str) (eL eLw)) m), .no, .no, .no, .no, .no, .no] _)
  refine s_then (s_setO 1 nd rfl (o_nilG (enc := (eL (eO PyData.int)))) rfl) ?_
  refine s_env (env' := [_, _, _, _, _, _, _]) rfl ?_
  refine c_forL (enc := eLw) (j := 2) (fun i => [(3, .no), (4, .no), (5, .no), (1, .own (((m.2.take i).map (lpwR m.1.length)).map (eL (eO PyData.int)))), (2, .no)]) PassesOwn.never (e_ixT (dv 0 rfl) e_int rfl) nd rfl ⟨.inr rfl, ⟨.inr (by
          rfl), ⟨.inl rfl, ⟨.inl rfl, ⟨.inl rfl, ⟨.inl rfl, ⟨.inr rfl, trivial⟩⟩⟩⟩⟩⟩⟩ (fun i1 z1 hz1 => ?_) ?_
  · have hfz := hp1.2.2 _ (List.mem_of_getElem? hz1)
    refine s_env (env' := [_, _, _, _, _, _, _]) rfl ?_
    refine s_then (s_setLcTA (enc := PyData.str) (encB := (eO PyData.int)) (own := [("name", 6)]) (g := gName 6) (ix := [6]) (f := (fun z env => (env.set 6 (.dat (.str z))))) 3 nd rfl (i_list (e_ixT (dv 0 rfl) e_int rfl)) (by
            first | omega | skip) (by first | (show blkC ["model", "rows", "law", "row", "k", "j", "name"] (defScope s__law_powers) _ [("name", 6)] = true; decide +kernel) | kernel_rfl) (fun s H C cl fp => (pg_name (i := 6) nd rfl (by first | exact .inl rfl | exact .inr rfl))) (fun z hz => asg_name) (by decide) (fun z hz s H C cl fp => (e_eq e_non (rfl : _ = (eO PyData.int) none))) rfl) ?_
    refine s_env (env' := [_, _, _, _, _, _, _]) rfl ?_
    refine c_forT (enc := (eT2 PyData.int PyData.int)) (f := fun z env => ((env.set 4 (.dat (.int z.1))).set 5 (.dat (.int z.2)))) (ix := [4, 5]) (fun i => [(3, .own ((itl lpw (List.replicate m.1.length none) (plcs z1) i).map (eO PyData.int))), (4, .no), (5, .no)]) PassesOwn.never (i_list (e_o (o_call D__law_places_of hr (a_cons (m := true) (dv 2 rfl) (a_nil (m := true))) rfl ⟨_, rfl, (by
            exact hfz.1), rfl⟩))) (pg_tup rfl (pgs_cons (pg_name (i := 4) nd rfl (by first | exact .inl rfl | exact .inr rfl)) (pgs_cons (pg_name (i := 5) nd rfl (by first | exact .inl rfl | exact .inr rfl)) pgs_nil))) (fun z hz => (asg_tup (asg_cons asg_name (asg_cons asg_name asg_nil)) rfl)) (fun z e1 e2 h => LeE.set_ (LeE.set_ (h))) ⟨.inr rfl, ⟨.inr rfl, ⟨.inr rfl, ⟨.inr (by
            show Sl.own _ = Sl.own _
            rw [itl_zero, List.map_replicate, List.map_map]
            simp [Function.comp_def, List.map_const']), ⟨.inl rfl, ⟨.inl rfl, ⟨.inr rfl, trivial⟩⟩⟩⟩⟩⟩⟩ (fun i2 z2 hz2 => ?_) ?_
    · have hpz := hfz.2 _ (List.mem_of_getElem? hz2)
      have hrl : (itl lpw (List.replicate m.1.length none) (plcs z1) i2).length = m.1.length := by unfold itl; rw [lpwF_len, List.length_replicate]
      refine s_env (env' := [_, _, _, _, _, _, _]) rfl ?_
      refine s_fork (s_if (t_w (w_or (c_isNoneO (m := true) (f := PyData.int) (e_ixG (enc := (eO PyData.int)) none (ov 3 rfl) (dv 5 rfl) (by
              first | omega | skip))).2 (fun hq => (w_one (c_lt (m := true) (e_getO 0 (e_ixG (enc := (eO PyData.int)) none (ov 3 rfl) (dv 5 rfl) (by
              first | omega | skip)) (by
              (simpa using hq))) (dv 4 rfl)).2)))) (fun hb132 => ?_) (fun hb132 => ?_))
      · walk_at "hb"
        refine s_then (s_setIxG (enc := (eO PyData.int)) 3 rfl (e_eq (dv 4 rfl) (rfl : _ = (eO PyData.int) (some _))) (dv 5 rfl) (by
                first | omega | skip) rfl) ?_
        refine s_env (env' := [_, _, _, _, _, _, _]) rfl ?_
        refine s_nil ?_
        refine s_nil ⟨.inr rfl, ⟨.inr rfl, ⟨.inr rfl, ⟨.inr (by
                have hB := hb132
                rw [itl_succ hz2]
                first
                | (rw [show lpw (itl lpw (List.replicate m.1.length none) (plcs z1) i2) z2 = _ from if_pos (by rw [Bool.or_eq_true, decide_eq_true_eq] at hB; exact hB)]; done)
                | (rw [show lpw (itl lpw (List.replicate m.1.length none) (plcs z1) i2) z2 = _ from if_pos (by rw [Bool.or_eq_true, decide_eq_true_eq] at hB; exact hB)]; rfl)
                | (rw [show lpw (itl lpw (List.replicate m.1.length none) (plcs z1) i2) z2 = _ from if_neg (by intro w; rw [← decide_eq_true_eq (p := _ < _), ← Bool.or_eq_true] at w; exact absurd (w.symm.trans hB) (by decide))]; done)
                | (rw [show lpw (itl lpw (List.replicate m.1.length none) (plcs z1) i2) z2 = _ from if_neg (by intro w; rw [← decide_eq_true_eq (p := _ < _), ← Bool.or_eq_true] at w; exact absurd (w.symm.trans hB) (by decide))]; rfl)), ⟨.inl rfl, ⟨.inl rfl, ⟨.inr rfl, trivial⟩⟩⟩⟩⟩⟩⟩
      · walk_at "hb"
        refine s_nil ?_
        refine s_nil ⟨.inr rfl, ⟨.inr rfl, ⟨.inr rfl, ⟨.inr (by
                have hB := hb132
                rw [itl_succ hz2]
                first
                | (rw [show lpw (itl lpw (List.replicate m.1.length none) (plcs z1) i2) z2 = _ from if_pos (by rw [Bool.or_eq_true, decide_eq_true_eq] at hB; exact hB)]; done)
                | (rw [show lpw (itl lpw (List.replicate m.1.length none) (plcs z1) i2) z2 = _ from if_pos (by rw [Bool.or_eq_true, decide_eq_true_eq] at hB; exact hB)]; rfl)
                | (rw [show lpw (itl lpw (List.replicate m.1.length none) (plcs z1) i2) z2 = _ from if_neg (by intro w; rw [← decide_eq_true_eq (p := _ < _), ← Bool.or_eq_true] at w; exact absurd (w.symm.trans hB) (by decide))]; done)
                | (rw [show lpw (itl lpw (List.replicate m.1.length none) (plcs z1) i2) z2 = _ from if_neg (by intro w; rw [← decide_eq_true_eq (p := _ < _), ← Bool.or_eq_true] at w; exact absurd (w.symm.trans hB) (by decide))]; rfl)), ⟨.inl rfl, ⟨.inl rfl, ⟨.inr rfl, trivial⟩⟩⟩⟩⟩⟩⟩
    refine s_env (env' := [_, _, _, _, _, _, _]) rfl ?_
    rw [itl_all]
    refine s_frz (i := 3) rfl ?_
    refine s_then (s_appG (enc := (eL (eO PyData.int))) 1 rfl (dv 3 rfl) (by
            rw [PySem.sizeLine_eq]; simp only [List.length_map, List.length_take]; omega) rfl) ?_
    refine s_env (env' := [_, _, _, _, _, _, _]) rfl ?_
    refine s_nil ⟨.inr rfl, ⟨.inr (by
            rw [List.take_add_one, hz1]; simp only [Option.toList_some, List.map_append, List.map_cons, List.map_nil]; rfl), ⟨.inl rfl, ⟨.inl rfl, ⟨.inl rfl, ⟨.inl rfl, ⟨.inr rfl, trivial⟩⟩⟩⟩⟩⟩⟩
  refine s_env (env' := [_, _, _, _, _, _, _]) rfl ?_
  exact s_last (s_retV 1 rfl (by first | exact .inl rfl | exact .inr (.inl rfl)) rfl (by
          show RS.own _ = RS.own _
          rw [List.take_length]; rfl))
/-! ### _law_table -/
abbrev s__law_table : Stmt := topS 25
theorem sc__law_table : FnScope ["model", "rows", "law", "row", "quantity", "element", "number", "k", "j"] ["model"] (defScope s__law_table) := ⟨rfl, rfl, rfl, by decide +kernel, rfl, by decide +kernel, by decide +kernel⟩
def R__law_table (dd : List PyData) (r : RS) : Prop := ∃ (m : ((List Str) × (List Lw))), dd = [((eT2 (eL PyData.str) (eL eLw)) m)] ∧ (FitM m) ∧ r = .own ((ltab m).map (eL (eL PyData.int)))
theorem ok__law_table {P : Program} {w : World} {K : KF} {mg : Str → Option Value} {base : Heap} {k : Nat} (B : Bt mg) (a : At K mg "_law_table" s__law_table ["model"]) : Def P w K mg base (k + 1) "_law_table" (spD K 1 R__law_table) := by
  have nd := sc__law_table.nd
  refine a.def fun f fd F => def_ok F sc__law_table fun cdv A outer s H E ds r hr hl hR => ?_
  obtain ⟨m, rfl, hp1, rfl⟩ := hR
  have h30 := hp1.1
  have h40 := hp1.2.1
  show PSs _ _ (tS K [.dat ((eT2 (eL PyData.str) (eL eLw)) m), .no, .no, .no, .no, .no, .no, .no, .no] _)
  refine s_then (s_setO 1 nd rfl (o_nilG (enc := (eL (eL PyData.int)))) rfl) ?_
  refine s_env (env' := [_, _, _, _, _, _, _, _, _]) rfl ?_
  refine c_forL (enc := eLw) (j := 2) (fun i => [(3, .no), (4, .no), (5, .no), (6, .no), (7, .no), (8, .no), (1, .own ((((m.2.take i).filter isE).map fun z => (List.range m.1.length).map fun (q : Nat) => trim (elF (q : Int) z.ets)).map (eL (eL PyData.int)))), (2, .no)]) PassesOwn.never (e_ixT (dv 0 rfl) e_int rfl) nd rfl ⟨.inr rfl, ⟨.inr (by
          rfl), ⟨.inl rfl, ⟨.inl rfl, ⟨.inl rfl, ⟨.inl rfl, ⟨.inl rfl, ⟨.inl rfl, ⟨.inl rfl, trivial⟩⟩⟩⟩⟩⟩⟩⟩⟩ (fun i1 z1 hz1 => ?_) ?_
  · have hfz := hp1.2.2 _ (List.mem_of_getElem? hz1)
    refine s_env (env' := [_, _, _, _, _, _, _, _, _]) rfl ?_
    refine s_fork (s_if (c_eqS (m := true) (m1 := true) (m2 := true) (e_ixTE (dv 2 rfl) e_int (lw_kind _)) e_str).2 (fun hb139 => ?_) (fun hb139 => ?_))
    · walk_at "hb"
      have hk : isE z1 = true := hb139
      refine s_then (s_setO 3 nd rfl (o_nilG (enc := (eL PyData.int))) rfl) ?_
      refine s_env (env' := [_, _, _, _, _, _, _, _, _]) rfl ?_
      refine c_forRN (j := 4) (fun i => [(5, .no), (6, .no), (7, .no), (8, .no), (3, .own (((List.range i).map fun (q : Nat) => trim (elF (q : Int) z1.ets)).map (eL PyData.int))), (4, .no)]) PassesOwn.never B.range (e_lenG (enc := PyData.str) B.len (l_e (e_ixT (dv 0 rfl) e_int rfl))) (by walk_at "d3") nd rfl ⟨.inr rfl, ⟨.inr rfl, ⟨.inr rfl, ⟨.inr (by
              rfl), ⟨.inl rfl, ⟨.inl rfl, ⟨.inl rfl, ⟨.inl rfl, ⟨.inl rfl, trivial⟩⟩⟩⟩⟩⟩⟩⟩⟩ (fun i2 hi2 => ?_) ?_
      · skip
        refine s_env (env' := [_, _, _, _, _, _, _, _, _]) rfl ?_
        refine s_then (s_setO 5 nd rfl (o_list (a_consG (enc := PyData.int) e_int (a_consG (enc := PyData.int) e_int (a_consG (enc := PyData.int) e_int (a_consG (enc := PyData.int) e_int (a_nilG (enc := PyData.int)))))) (by
                first | omega | (rw [PySem.sizeLine_eq]; simp; done) | skip)) rfl) ?_
        refine s_env (env' := [_, _, _, _, _, _, _, _, _]) rfl ?_
        refine c_forT (enc := (eT3 PyData.int PyData.int PyData.int)) (f := fun z env => (((env.set 6 (.dat (.int z.1))).set 7 (.dat (.int z.2.1))).set 8 (.dat (.int z.2.2)))) (ix := [6, 7, 8]) (fun i => [(5, .own ((itl (elS (i2 : Int)) [0, 0, 0, 0] z1.ets i).map PyData.int)), (6, .no), (7, .no), (8, .no)]) PassesOwn.never (i_list (e_ixTE (dv 2 rfl) e_int (lw_ets (of_decide_eq_true hk)))) (pg_tup rfl (pgs_cons (pg_name (i := 6) nd rfl (by first | exact .inl rfl | exact .inr rfl)) (pgs_cons (pg_name (i := 7) nd rfl (by first | exact .inl rfl | exact .inr rfl)) (pgs_cons (pg_name (i := 8) nd rfl (by first | exact .inl rfl | exact .inr rfl)) pgs_nil)))) (fun z hz => (asg_tup (asg_cons asg_name (asg_cons asg_name (asg_cons asg_name asg_nil))) rfl)) (fun z e1 e2 h => LeE.set_ (LeE.set_ (LeE.set_ (h)))) ⟨.inr rfl, ⟨.inr rfl, ⟨.inr rfl, ⟨.inr rfl, ⟨.inr rfl, ⟨.inr (by
                rfl), ⟨.inl rfl, ⟨.inl rfl, ⟨.inl rfl, trivial⟩⟩⟩⟩⟩⟩⟩⟩⟩ (fun i3 z3 hz3 => ?_) ?_
        · have hpz := hfz.2 _ (ets_mem (List.mem_of_getElem? hz3))
          have hel : (itl (elS (i2 : Int)) [0, 0, 0, 0] z1.ets i3).length = 4 := by unfold itl; rw [elF_len]; rfl
          refine s_env (env' := [_, _, _, _, _, _, _, _, _]) rfl ?_
          refine s_fork (s_if (c_eqI (m := true) (dv 8 rfl) (dv 4 rfl)).2 (fun hb144 => ?_) (fun hb144 => ?_))
          · walk_at "hb"
            refine s_then (s_setIxG (enc := PyData.int) 5 rfl (dv 6 rfl) (dv 7 rfl) (by
                    first | omega | skip) rfl) ?_
            refine s_env (env' := [_, _, _, _, _, _, _, _, _]) rfl ?_
            refine s_nil ?_
            refine s_nil ⟨.inr rfl, ⟨.inr rfl, ⟨.inr rfl, ⟨.inr rfl, ⟨.inr rfl, ⟨.inr (by
                    rw [itl_succ hz3]
                    unfold elS
                    first | (rw [if_pos (of_decide_eq_true hb144)]; done) | (rw [if_pos (of_decide_eq_true hb144)]; rfl) | (rw [if_neg (of_decide_eq_false hb144)]; done) | (rw [if_neg (of_decide_eq_false hb144)]; rfl)), ⟨.inl rfl, ⟨.inl rfl, ⟨.inl rfl, trivial⟩⟩⟩⟩⟩⟩⟩⟩⟩
          · walk_at "hb"
            refine s_nil ?_
            refine s_nil ⟨.inr rfl, ⟨.inr rfl, ⟨.inr rfl, ⟨.inr rfl, ⟨.inr rfl, ⟨.inr (by
                    rw [itl_succ hz3]
                    unfold elS
                    first | (rw [if_pos (of_decide_eq_true hb144)]; done) | (rw [if_pos (of_decide_eq_true hb144)]; rfl) | (rw [if_neg (of_decide_eq_false hb144)]; done) | (rw [if_neg (of_decide_eq_false hb144)]; rfl)), ⟨.inl rfl, ⟨.inl rfl, ⟨.inl rfl, trivial⟩⟩⟩⟩⟩⟩⟩⟩⟩
        refine s_env (env' := [_, _, _, _, _, _, _, _, _]) rfl ?_
        rw [itl_all]
        have hE : (elF (i2 : Int) z1.ets).length = 4 := by unfold elF; rw [elF_len]; rfl
        rw [show z1.ets.foldl (elS (i2 : Int)) [0, 0, 0, 0] = elF (i2 : Int) z1.ets from rfl]
        generalize hEE : elF (i2 : Int) z1.ets = E4 at *
        refine c_while (fun i => [(5, .own ((E4.take (E4.length - i)).map PyData.int))]) (fun i => decide (i < nz E4)) (nz E4) PassesOwn.never ⟨.inr rfl, ⟨.inr rfl, ⟨.inr rfl, ⟨.inr rfl, ⟨.inr rfl, ⟨.inr (by
                show Sl.own _ = Sl.own _; rw [Nat.sub_zero, List.take_length]), ⟨.inr rfl, ⟨.inr rfl, ⟨.inr rfl, trivial⟩⟩⟩⟩⟩⟩⟩⟩⟩ (fun i hi => ?_) ?_ (fun i hi => ?_) (fun i hi => ?_) ?_
        · exact decide_eq_true hi
        · exact decide_eq_false (Nat.lt_irrefl _)
        · refine t_eq (t_w (w_and (c_gt (m := true) (e_lenG (enc := PyData.int) B.len (ov 5 rfl)) e_int).2 (fun hq => (w_one (c_eqI (m := true) (e_ixZ (ov 5 rfl) (e_neg e_int) (by
                (intro w; simp only [decide_eq_true_eq] at hq; rw [w] at hq; simp at hq))) e_int).2)))) ?_
          exact nz_test2 E4 i hi
        · have hz := nz_le E4
          refine s_then (s_popG 5 rfl (by first | exact .inl rfl | exact .inr (.inl rfl)) rfl (by
                  rw [List.length_take]; omega) rfl) ?_
          refine s_env (env' := [_, _, _, _, _, _, _, _, _]) rfl ?_
          refine s_nil ⟨.inr rfl, ⟨.inr rfl, ⟨.inr rfl, ⟨.inr rfl, ⟨.inr rfl, ⟨.inr (by
                  show Sl.own _ = Sl.own _; rw [dropL_take (by omega)]), ⟨.inr rfl, ⟨.inr rfl, ⟨.inr rfl, trivial⟩⟩⟩⟩⟩⟩⟩⟩⟩
        have hEt := trim_len E4
        rw [show E4.take (E4.length - nz E4) = trim E4 from rfl]
        refine s_frz (i := 5) rfl ?_
        refine s_then (s_appG (enc := (eL PyData.int)) 3 rfl (dv 5 rfl) (by
                rw [PySem.sizeLine_eq]; (try simp only [List.length_map, List.length_take, List.length_range]); first | omega | (have h9 := List.length_filter_le isE (m.2.take i1); rw [List.length_take] at h9; omega)) rfl) ?_
        refine s_env (env' := [_, _, _, _, _, _, _, _, _]) rfl ?_
        refine s_nil ⟨.inr rfl, ⟨.inr rfl, ⟨.inr rfl, ⟨.inr (by
                rw [List.range_succ, List.map_append]; simp only [List.map_append, List.map_cons, List.map_nil]; rw [← hEE]), ⟨.inl rfl, ⟨.inl rfl, ⟨.inl rfl, ⟨.inl rfl, ⟨.inl rfl, trivial⟩⟩⟩⟩⟩⟩⟩⟩⟩
      refine s_env (env' := [_, _, _, _, _, _, _, _, _]) rfl ?_
      refine s_frz (i := 3) rfl ?_
      refine s_then (s_appG (enc := (eL (eL PyData.int))) 1 rfl (dv 3 rfl) (by
              rw [PySem.sizeLine_eq]; (try simp only [List.length_map, List.length_take, List.length_range]); first | omega | (have h9 := List.length_filter_le isE (m.2.take i1); rw [List.length_take] at h9; omega)) rfl) ?_
      refine s_env (env' := [_, _, _, _, _, _, _, _, _]) rfl ?_
      refine s_nil ?_
      refine s_nil ⟨.inr rfl, ⟨.inr (by
              rw [List.take_add_one, hz1, List.filter_append]
              first
              | (rw [show (some z1).toList.filter isE = [z1] from by have h9 : isE z1 = true := hb139; simp [h9]]; simp only [List.map_append, List.map_cons, List.map_nil]; try rfl)
              | (rw [show (some z1).toList.filter isE = [] from by have h9 : isE z1 = false := hb139; simp [h9]]; simp only [List.append_nil]; done)), ⟨.inl rfl, ⟨.inl rfl, ⟨.inl rfl, ⟨.inl rfl, ⟨.inl rfl, ⟨.inl rfl, ⟨.inl rfl, trivial⟩⟩⟩⟩⟩⟩⟩⟩⟩
    · walk_at "hb"
      refine s_nil ?_
      refine s_nil ⟨.inr rfl, ⟨.inr (by
              rw [List.take_add_one, hz1, List.filter_append]
              first
              | (rw [show (some z1).toList.filter isE = [z1] from by have h9 : isE z1 = true := hb139; simp [h9]]; simp only [List.map_append, List.map_cons, List.map_nil]; try rfl)
              | (rw [show (some z1).toList.filter isE = [] from by have h9 : isE z1 = false := hb139; simp [h9]]; simp only [List.append_nil]; done)), ⟨.inl rfl, ⟨.inl rfl, ⟨.inl rfl, ⟨.inl rfl, ⟨.inl rfl, ⟨.inl rfl, ⟨.inl rfl, trivial⟩⟩⟩⟩⟩⟩⟩⟩⟩
  refine s_env (env' := [_, _, _, _, _, _, _, _, _]) rfl ?_
  exact s_last (s_retV 1 rfl (by first | exact .inl rfl | exact .inr (.inl rfl)) rfl (by
          show RS.own _ = RS.own _
          rw [List.take_length]; rfl))
/-! ### _law_meetings -/
abbrev s__law_meetings : Stmt := topS 26
theorem sc__law_meetings : FnScope ["model", "rows", "law", "j", "place"] ["model"] (defScope s__law_meetings) := ⟨rfl, rfl, rfl, by decide +kernel, rfl, by decide +kernel, by decide +kernel⟩
def R__law_meetings (dd : List PyData) (r : RS) : Prop := ∃ (m : ((List Str) × (List Lw))), dd = [((eT2 (eL PyData.str) (eL eLw)) m)] ∧ (FitM m) ∧ r = .own ((lmts m).map (eL PyData.int))
theorem ok__law_meetings {P : Program} {w : World} {K : KF} {mg : Str → Option Value} {base : Heap} {k : Nat} (B : Bt mg) (D__law_places_of : Def P w K mg base k "_law_places_of" (spD K 1 R__law_places_of)) (a : At K mg "_law_meetings" s__law_meetings ["model"]) : Def P w K mg base (k + 1) "_law_meetings" (spD K 1 R__law_meetings) := by
  have nd := sc__law_meetings.nd
  refine a.def fun f fd F => def_ok F sc__law_meetings fun cdv A outer s H E ds r hr hl hR => ?_
  obtain ⟨m, rfl, hp1, rfl⟩ := hR
  have h30 := hp1.1
  have h40 := hp1.2.1
  show PSs _ _ (tS K [.dat ((eT2 (eL PyData.str) (eL eLw)) m), .no, .no, .no, .no] _)
  refine s_then (s_setO 1 nd rfl (o_nilG (enc := (eL PyData.int))) rfl) ?_
  refine s_env (env' := [_, _, _, _, _]) rfl ?_
  refine c_forL (enc := eLw) (j := 2) (fun i => [(1, .own ((((m.2.take i).filter isZ).map fun z => ((List.range m.1.length).filter fun (j : Nat) => decide ((j : Int) ∈ (plcs z).map (·.2))).map fun (j : Nat) => (j : Int)).map (eL PyData.int))), (2, .no)]) PassesOwn.never (e_ixT (dv 0 rfl) e_int rfl) nd rfl ⟨.inr rfl, ⟨.inr (by
          rfl), ⟨.inl rfl, ⟨.inr rfl, ⟨.inr rfl, trivial⟩⟩⟩⟩⟩ (fun i1 z1 hz1 => ?_) ?_
  · have hfz := hp1.2.2 _ (List.mem_of_getElem? hz1)
    have hp9 := plcs_len hfz.1
    refine s_env (env' := [_, _, _, _, _]) rfl ?_
    refine s_fork (s_if (c_eqS (m := true) (m1 := true) (m2 := true) (e_ixTE (dv 2 rfl) e_int (lw_kind _)) e_str).2 (fun hb154 => ?_) (fun hb154 => ?_))
    · walk_at "hb"
      refine s_then (s_appG (enc := (eL PyData.int)) 1 rfl (e_o (o_lcT (enc := (fun z => (fun (k : Nat) => PyData.int (k : Int)) z)) (encB := PyData.int) (own := [("j", 3)]) (g := gName 3) (ix := [3]) (f := (fun z env => (env.set 3 (.dat ((fun (k : Nat) => PyData.int (k : Int)) z))))) nd (i_rngN B.range (e_lenG (enc := PyData.str) B.len (l_e (e_ixT (dv 0 rfl) e_int rfl))) (by
              first | omega | skip)) (by
              first | omega | (rw [List.length_range]; omega) | skip) (by first | (show blkC ["model", "rows", "law", "j", "place"] (defScope s__law_meetings) _ [("j", 3)] = true; decide +kernel) | kernel_rfl) (fun s H C cl fp => (pg_name (i := 3) nd rfl (by first | exact .inl rfl | exact .inr rfl))) (fun z hz => asg_name) (by decide) (fun z hz s H C cl fp => ts_one (c_inI (m := true) (m1 := true) (m2 := true) (hu65 hr) (dv 3 rfl) (e_o (o_lcTA (enc := (eT2 PyData.int PyData.int)) (encB := PyData.int) (own := [("place", 4)]) (g := gName 4) (ix := [4]) (f := (fun z env => (env.set 4 (.dat ((eT2 PyData.int PyData.int) z))))) nd (i_list (e_o (o_call D__law_places_of hr (a_cons (m := true) (dv 2 rfl) (a_nil (m := true))) rfl ⟨_, rfl, (by
              exact hfz.1), rfl⟩))) (by
              first | omega | (rw [List.length_range]; omega) | skip) (by first | (show blkC ["model", "rows", "law", "j", "place"] (defScope s__law_meetings) _ [("place", 4)] = true; decide +kernel) | kernel_rfl) (fun s H C cl fp => (pg_name (i := 4) nd rfl (by first | exact .inl rfl | exact .inr rfl))) (fun z hz => asg_name) (by decide) (fun z hz s H C cl fp => (e_ixT (dv 4 rfl) e_int rfl))))).2) (fun z hz hq s H C cl fp => (dv 3 rfl)))) (by
              rw [PySem.sizeLine_eq]; (try simp only [List.length_map, List.length_take, List.length_range]); (have h9 := List.length_filter_le isZ (m.2.take i1); rw [List.length_take] at h9; omega)) rfl) ?_
      refine s_env (env' := [_, _, _, _, _]) rfl ?_
      refine s_nil ?_
      refine s_nil ⟨.inr rfl, ⟨.inr (by
              rw [List.take_add_one, hz1, List.filter_append]
              first
              | (rw [show (some z1).toList.filter isZ = [z1] from by have h9 : isZ z1 = true := hb154; simp [h9]]; simp only [List.map_append, List.map_cons, List.map_nil]; try rfl)
              | (rw [show (some z1).toList.filter isZ = [] from by have h9 : isZ z1 = false := hb154; simp [h9]]; simp only [List.append_nil]; done)), ⟨.inl rfl, ⟨.inr rfl, ⟨.inr rfl, trivial⟩⟩⟩⟩⟩
    · walk_at "hb"
      refine s_nil ?_
      refine s_nil ⟨.inr rfl, ⟨.inr (by
              rw [List.take_add_one, hz1, List.filter_append]
              first
              | (rw [show (some z1).toList.filter isZ = [z1] from by have h9 : isZ z1 = true := hb154; simp [h9]]; simp only [List.map_append, List.map_cons, List.map_nil]; try rfl)
              | (rw [show (some z1).toList.filter isZ = [] from by have h9 : isZ z1 = false := hb154; simp [h9]]; simp only [List.append_nil]; done)), ⟨.inl rfl, ⟨.inr rfl, ⟨.inr rfl, trivial⟩⟩⟩⟩⟩
  refine s_env (env' := [_, _, _, _, _]) rfl ?_
  exact s_last (s_retV 1 rfl (by first | exact .inl rfl | exact .inr (.inl rfl)) rfl (by
          show RS.own _ = RS.own _
          rw [List.take_length]; rfl))
/-! ### _law_told -/
abbrev s__law_told : Stmt := topS 27
theorem sc__law_told : FnScope ["model"] ["model"] (defScope s__law_told) := ⟨rfl, rfl, rfl, by decide +kernel, rfl, by decide +kernel, by decide +kernel⟩
def R__law_told (dd : List PyData) (r : RS) : Prop := ∃ (m : ((List Str) × (List Lw))), dd = [((eT2 (eL PyData.str) (eL eLw)) m)] ∧ (FitM m) ∧ r = .tre (told6 m)
theorem ok__law_told {P : Program} {w : World} {K : KF} {mg : Str → Option Value} {base : Heap} {k : Nat} (B : Bt mg) (D_powers : Def P w K mg base k "powers" (spD K 1 R_powers)) (D_exact_table : Def P w K mg base k "exact_table" (spD K 1 R_exact_table)) (D_meetings : Def P w K mg base k "meetings" (spD K 1 R_meetings)) (D_exact_laws : Def P w K mg base k "exact_laws" (spD K 1 R_exact_laws)) (D_sized_laws : Def P w K mg base k "sized_laws" (spD K 1 R_sized_laws)) (D_sizes_of : Def P w K mg base k "sizes_of" (spD K 1 R_sizes_of)) (a : At K mg "_law_told" s__law_told ["model"]) : Def P w K mg base (k + 1) "_law_told" (spD K 1 R__law_told) := by
  have nd := sc__law_told.nd
  refine a.def fun f fd F => def_ok F sc__law_told fun cdv A outer s H E ds r hr hl hR => ?_
  obtain ⟨m, rfl, hp1, rfl⟩ := hR
  have h30 := hp1.1
  have h40 := hp1.2.1
  have h50 := szOf_len hp1
  have h51 : (eLaws m).length ≤ 40 := by unfold eLaws; rw [List.length_map]; exact Nat.le_trans (List.length_filter_le ..) (by rw [List.length_range]; exact h40)
  have h52 : (zLaws m).length ≤ 40 := by unfold zLaws; rw [List.length_map]; exact Nat.le_trans (List.length_filter_le ..) (by rw [List.length_range]; exact h40)
  show PSs _ _ (tS K [.dat ((eT2 (eL PyData.str) (eL eLw)) m)] _)
  exact s_last (s_retTr (tr_list (tra_cons (tr_call D_powers hr (a_cons (m := true) (dv 0 rfl) (a_nil (m := true))) rfl ⟨_, rfl, (by
          first | exact hp1 | omega), rfl⟩) (tra_cons (tr_call D_exact_table hr (a_cons (m := true) (dv 0 rfl) (a_nil (m := true))) rfl ⟨_, rfl, (by
          first | exact hp1 | omega), rfl⟩) (tra_cons (tr_call D_meetings hr (a_cons (m := true) (dv 0 rfl) (a_nil (m := true))) rfl ⟨_, rfl, (by
          first | exact hp1 | omega), rfl⟩) (tra_cons (tr_oG (enc := PyData.int) (o_call D_exact_laws hr (a_cons (m := true) (dv 0 rfl) (a_nil (m := true))) rfl ⟨_, rfl, (by
          first | exact hp1 | omega), rfl⟩) (by
          omega)) (tra_cons (tr_oG (enc := PyData.int) (o_call D_sized_laws hr (a_cons (m := true) (dv 0 rfl) (a_nil (m := true))) rfl ⟨_, rfl, (by
          first | exact hp1 | omega), rfl⟩) (by
          omega)) (tra_cons (tr_oG (enc := PyData.str) (o_call D_sizes_of hr (a_cons (m := true) (dv 0 rfl) (a_nil (m := true))) rfl ⟨_, rfl, (by
          first | exact hp1 | omega), rfl⟩) (by
          omega)) tra_nil)))))) (show 6 ≤ 1000000 from by decide)) (by
          show RS.tre _ = RS.tre (told6 m)
          rw [told6_eq]; rfl))
/-! ### law -/
abbrev s_law : Stmt := topS 28
theorem sc_law : FnScope ["script", "draws", "model", "kept", "kinds", "due", "sizes", "law", "told", "each", "row", "element", "i", "term"] ["script"] (defScope s_law) := ⟨rfl, rfl, rfl, by decide +kernel, rfl, by decide +kernel, by decide +kernel⟩
def R_law (ns : List Int) (r : RS) : Prop := ns.length ≤ 63 ∧ r = .dat (.bool true)
theorem ok_law {P : Program} {w : World} {K : KF} {mg : Str → Option Value} {k : Nat} {f : Addr} {fd : FuncData} (B : Bt mg) (D__law_draws : ∀ base, Def P w K mg base k "_law_draws" (spScr K R__law_draws)) (D__law_model : ∀ base, Def P w K mg base k "_law_model" (spD K 2 R__law_model)) (D__law_told : ∀ base, Def P w K mg base k "_law_told" (spD K 1 R__law_told)) (D__law_powers : ∀ base, Def P w K mg base k "_law_powers" (spD K 1 R__law_powers)) (D__law_table : ∀ base, Def P w K mg base k "_law_table" (spD K 1 R__law_table)) (D__law_meetings : ∀ base, Def P w K mg base k "_law_meetings" (spD K 1 R__law_meetings)) (F : Fn K "law" "law" s_law f fd) (hr0 : Room (k + 1) callerA) : LawAt P w K mg k f fd R_law := by
  have nd := sc_law.nd
  refine law_at F sc_law hr0 fun base cdv s H ns r hr hR => ?_
  have D__law_draws := D__law_draws base
  have D__law_model := D__law_model base
  have D__law_told := D__law_told base
  have D__law_powers := D__law_powers base
  have D__law_table := D__law_table base
  have D__law_meetings := D__law_meetings base
  have hR : _ ∧ r = _ := hR
  obtain ⟨h63, rfl⟩ := hR
  show PSs _ _ (tS K [.scr ns, .no, .no, .no, .no, .no, .no, .no, .no, .no, .no, .no, .no, .no] _)
  refine s_then (s_set 1 nd rfl (e_o (o_callScrD' 0 D__law_draws hr rfl rfl)) rfl) ?_
  refine s_env (env' := [_, _, _, _, _, _, _, _, _, _, _, _, _, _]) rfl ?_
  refine s_then (s_set 2 nd rfl (e_call D__law_model hr (a_cons (m := true) (dv 1 rfl) (a_cons (m := true) e_int (a_nil (m := true)))) rfl ⟨_, _, rfl, (by
          first | exact hF | omega), rfl⟩) rfl) ?_
  refine s_env (env' := [_, _, _, _, _, _, _, _, _, _, _, _, _, _]) rfl ?_
  obtain ⟨hF, hT⟩ := lmodel_ok (draws ns) 0
  generalize lmodel (draws ns) 0 = m at *
  have h30 := hF.1
  have h40 := hF.2.1
  have h50 := szOf_len hF
  have hrp := rp_md hT
  have hsh := told_sh hT
  refine s_then (s_set 3 nd rfl (e_reprD (m1 := true) rfl (hu80 hr) B.repr (dv 2 rfl) rfl (by
          exact hrp) (by decide) (by rw [PySem.sizeLine_eq]; decide)) rfl) ?_
  refine s_env (env' := [_, _, _, _, _, _, _, _, _, _, _, _, _, _]) rfl ?_
  refine s_then (s_set 4 nd rfl (e_o (o_lcTA (enc := eLw) (encB := PyData.str) (own := [("law", 7)]) (g := gName 7) (ix := [7]) (f := (fun z env => (env.set 7 (.dat (eLw z))))) nd (i_list (e_ixT (dv 2 rfl) e_int rfl)) (by
          first | (rw [List.length_range, List.length_map]; omega) | (rw [PySem.sizeLine_eq, List.length_map]; omega) | (rw [PySem.sizeLine_eq]; simp; done) | (show 6 ≤ 1000000; decide) | omega | skip) (by first | (show blkC ["script", "draws", "model", "kept", "kinds", "due", "sizes", "law", "told", "each", "row", "element", "i", "term"] (defScope s_law) _ [("law", 7)] = true; decide +kernel) | kernel_rfl) (fun s H C cl fp => (pg_name (i := 7) nd rfl (by first | exact .inl rfl | exact .inr rfl))) (fun z hz => asg_name) (by decide) (fun z hz s H C cl fp => (e_ixTE (dv 7 rfl) e_int (lw_kind _))))) rfl) ?_
  refine s_env (env' := [_, _, _, _, _, _, _, _, _, _, _, _, _, _]) rfl ?_
  refine s_then (s_setO 5 nd rfl (o_list (a_consG (enc := (fun z => z)) (e_o (o_call D__law_powers hr (a_cons (m := true) (dv 2 rfl) (a_nil (m := true))) rfl ⟨_, rfl, (by
          first | exact hF | omega), rfl⟩)) (a_consG (enc := (fun z => z)) (e_o (o_call D__law_table hr (a_cons (m := true) (dv 2 rfl) (a_nil (m := true))) rfl ⟨_, rfl, (by
          first | exact hF | omega), rfl⟩)) (a_consG (enc := (fun z => z)) (e_o (o_call D__law_meetings hr (a_cons (m := true) (dv 2 rfl) (a_nil (m := true))) rfl ⟨_, rfl, (by
          first | exact hF | omega), rfl⟩)) (a_nilG (enc := (fun z => z)))))) (by
          first | (rw [List.length_range, List.length_map]; omega) | (rw [PySem.sizeLine_eq, List.length_map]; omega) | (rw [PySem.sizeLine_eq]; simp; done) | (show 6 ≤ 1000000; decide) | omega | skip)) rfl) ?_
  refine s_env (env' := [_, _, _, _, _, _, _, _, _, _, _, _, _, _]) rfl ?_
  refine s_then (s_app 5 rfl (by first | exact .inl rfl | exact .inr (.inl rfl)) rfl (e_o (o_lcT (enc := (fun z => (fun (k : Nat) => PyData.int (k : Int)) z)) (encB := PyData.int) (own := [("i", 12)]) (g := gName 12) (ix := [12]) (f := (fun z env => (env.set 12 (.dat ((fun (k : Nat) => PyData.int (k : Int)) z))))) nd (i_rngN B.range (e_lenG (enc := PyData.str) B.len (l_e (dv 4 rfl))) (by
          first | omega | (rw [List.length_map]; omega) | skip)) (by
          first | (rw [List.length_range, List.length_map]; omega) | (rw [PySem.sizeLine_eq, List.length_map]; omega) | (rw [PySem.sizeLine_eq]; simp; done) | (show 6 ≤ 1000000; decide) | omega | skip) (by first | (show blkC ["script", "draws", "model", "kept", "kinds", "due", "sizes", "law", "told", "each", "row", "element", "i", "term"] (defScope s_law) _ [("i", 12)] = true; decide +kernel) | kernel_rfl) (fun s H C cl fp => (pg_name (i := 12) nd rfl (by first | exact .inl rfl | exact .inr rfl))) (fun z hz => asg_name) (by decide) (fun z hz s H C cl fp => ts_one (c_eqS (m := true) (m1 := true) (m2 := true) (e_ixG (enc := PyData.str) "" (l_e (dv 4 rfl)) (dv 12 rfl) (by
          (have h9 := List.mem_range.mp hz; omega))) e_str).2) (fun z hz hq s H C cl fp => (dv 12 rfl)))) (by
          (rw [PySem.sizeLine_eq]; simp; done)) rfl) ?_
  refine s_env (env' := [_, _, _, _, _, _, _, _, _, _, _, _, _, _]) rfl ?_
  refine s_then (s_app 5 rfl (by first | exact .inl rfl | exact .inr (.inl rfl)) rfl (e_o (o_lcT (enc := (fun z => (fun (k : Nat) => PyData.int (k : Int)) z)) (encB := PyData.int) (own := [("i", 12)]) (g := gName 12) (ix := [12]) (f := (fun z env => (env.set 12 (.dat ((fun (k : Nat) => PyData.int (k : Int)) z))))) nd (i_rngN B.range (e_lenG (enc := PyData.str) B.len (l_e (dv 4 rfl))) (by
          first | omega | (rw [List.length_map]; omega) | skip)) (by
          first | (rw [List.length_range, List.length_map]; omega) | (rw [PySem.sizeLine_eq, List.length_map]; omega) | (rw [PySem.sizeLine_eq]; simp; done) | (show 6 ≤ 1000000; decide) | omega | skip) (by first | (show blkC ["script", "draws", "model", "kept", "kinds", "due", "sizes", "law", "told", "each", "row", "element", "i", "term"] (defScope s_law) _ [("i", 12)] = true; decide +kernel) | kernel_rfl) (fun s H C cl fp => (pg_name (i := 12) nd rfl (by first | exact .inl rfl | exact .inr rfl))) (fun z hz => asg_name) (by decide) (fun z hz s H C cl fp => ts_one (c_eqS (m := true) (m1 := true) (m2 := true) (e_ixG (enc := PyData.str) "" (l_e (dv 4 rfl)) (dv 12 rfl) (by
          (have h9 := List.mem_range.mp hz; omega))) e_str).2) (fun z hz hq s H C cl fp => (dv 12 rfl)))) (by
          (rw [PySem.sizeLine_eq]; simp; done)) rfl) ?_
  refine s_env (env' := [_, _, _, _, _, _, _, _, _, _, _, _, _, _]) rfl ?_
  refine s_then (s_set 6 nd rfl (e_o (o_nilG (enc := PyData.str))) rfl) ?_
  refine s_env (env' := [_, _, _, _, _, _, _, _, _, _, _, _, _, _]) rfl ?_
  refine c_forL (enc := eLw) (j := 7) (fun i => [(6, .dat (eL PyData.str (lc2V isZ Lw.sts (fun _ _ => true) (fun _ t => t.1) (m.2.take i)))), (7, .no)]) PassesOwn.never (e_ixT (dv 2 rfl) e_int rfl) nd rfl ⟨.inr rfl, ⟨.inr rfl, ⟨.inr rfl, ⟨.inr rfl, ⟨.inr rfl, ⟨.inr rfl, ⟨.inr (by
          rfl), ⟨.inl rfl, ⟨.inr rfl, ⟨.inr rfl, ⟨.inr rfl, ⟨.inr rfl, ⟨.inr rfl, ⟨.inr rfl, trivial⟩⟩⟩⟩⟩⟩⟩⟩⟩⟩⟩⟩⟩⟩ (fun i1 z1 hz1 => ?_) ?_
  · have hfz := hF.2.2 _ (List.mem_of_getElem? hz1)
    have hst := hfz.1.2
    have hlc := lcz_len hF i1
    refine s_env (env' := [_, _, _, _, _, _, _, _, _, _, _, _, _, _]) rfl ?_
    refine s_fork (s_if (c_eqS (m := true) (m1 := true) (m2 := true) (e_ixTE (dv 7 rfl) e_int (lw_kind _)) e_str).2 (fun hb169 => ?_) (fun hb169 => ?_))
    · walk_at "hb"
      refine s_then (s_set 6 nd rfl (e_o (o_catG (enc := PyData.str) (l_e (dv 6 rfl)) (l_o (o_lcTA (enc := (eT3 PyData.str PyData.int PyData.int)) (encB := PyData.str) (own := [("term", 13)]) (g := gName 13) (ix := [13]) (f := (fun z env => (env.set 13 (.dat ((eT3 PyData.str PyData.int PyData.int) z))))) nd (i_list (e_ixTE (dv 7 rfl) e_int (lw_sts (of_decide_eq_true hb169)))) (by
              first | (rw [List.length_range, List.length_map]; omega) | (rw [PySem.sizeLine_eq, List.length_map]; omega) | (rw [PySem.sizeLine_eq]; simp; done) | (show 6 ≤ 1000000; decide) | omega | skip) (by first | (show blkC ["script", "draws", "model", "kept", "kinds", "due", "sizes", "law", "told", "each", "row", "element", "i", "term"] (defScope s_law) _ [("term", 13)] = true; decide +kernel) | kernel_rfl) (fun s H C cl fp => (pg_name (i := 13) nd rfl (by first | exact .inl rfl | exact .inr rfl))) (fun z hz => asg_name) (by decide) (fun z hz s H C cl fp => (e_ixT (dv 13 rfl) e_int rfl)))) (by
              first | (rw [List.length_range, List.length_map]; omega) | (rw [PySem.sizeLine_eq, List.length_map]; omega) | (rw [PySem.sizeLine_eq]; simp; done) | (show 6 ≤ 1000000; decide) | omega | skip))) rfl) ?_
      refine s_env (env' := [_, _, _, _, _, _, _, _, _, _, _, _, _, _]) rfl ?_
      refine s_nil ?_
      refine s_nil ⟨.inr rfl, ⟨.inr rfl, ⟨.inr rfl, ⟨.inr rfl, ⟨.inr rfl, ⟨.inr rfl, ⟨.inr (by
              rw [lcz_succ hz1]
              first | (rw [if_pos (show isZ z1 = true from hb169)]; done) | (rw [if_pos (show isZ z1 = true from hb169)]; rfl) | (rw [if_neg (by have h9 : isZ z1 = false := hb169; rw [h9]; decide), List.append_nil]; done) | (rw [if_neg (by have h9 : isZ z1 = false := hb169; rw [h9]; decide), List.append_nil]; rfl)), ⟨.inl rfl, ⟨.inr rfl, ⟨.inr rfl, ⟨.inr rfl, ⟨.inr rfl, ⟨.inr rfl, ⟨.inr rfl, trivial⟩⟩⟩⟩⟩⟩⟩⟩⟩⟩⟩⟩⟩⟩
    · walk_at "hb"
      refine s_nil ?_
      refine s_nil ⟨.inr rfl, ⟨.inr rfl, ⟨.inr rfl, ⟨.inr rfl, ⟨.inr rfl, ⟨.inr rfl, ⟨.inr (by
              rw [lcz_succ hz1]
              first | (rw [if_pos (show isZ z1 = true from hb169)]; done) | (rw [if_pos (show isZ z1 = true from hb169)]; rfl) | (rw [if_neg (by have h9 : isZ z1 = false := hb169; rw [h9]; decide), List.append_nil]; done) | (rw [if_neg (by have h9 : isZ z1 = false := hb169; rw [h9]; decide), List.append_nil]; rfl)), ⟨.inl rfl, ⟨.inr rfl, ⟨.inr rfl, ⟨.inr rfl, ⟨.inr rfl, ⟨.inr rfl, ⟨.inr rfl, trivial⟩⟩⟩⟩⟩⟩⟩⟩⟩⟩⟩⟩⟩⟩
  refine s_env (env' := [_, _, _, _, _, _, _, _, _, _, _, _, _, _]) rfl ?_
  rw [List.take_length]
  refine s_then (s_app 5 rfl (by first | exact .inl rfl | exact .inr (.inl rfl)) rfl (dv 6 rfl) (by
          (rw [PySem.sizeLine_eq]; simp; done)) rfl) ?_
  refine s_env (env' := [_, _, _, _, _, _, _, _, _, _, _, _, _, _]) rfl ?_
  refine c_setTr 8 nd rfl (tr_call D__law_told hr (a_cons (m := true) (dv 2 rfl) (a_nil (m := true))) rfl ⟨_, rfl, (by
          first | exact hF | omega), (by
          rfl)⟩) (fun v_told => ?_)
  refine s_env (env' := [_, _, _, _, _, _, _, _, _, _, _, _, _, _]) rfl ?_
  refine c_ifF (t_softTr 8 rfl td6 rfl (t_w (w_or (c_neD (m := true) (m1 := true) (m2 := false) hr.units (dv 8 rfl) (e_l (ov 5 rfl)) (by
          first | exact hsh | (show SeqAt.shaped (eL (fun z => z) (dueL m)) = true; rw [due_eq hF]; exact hsh)) (by
          first | exact hsh | (show SeqAt.shaped (eL (fun z => z) (dueL m)) = true; rw [due_eq hF]; exact hsh))).2 (fun hq => (w_or (t_not (t_val (e_allD B.all (l_o (o_lcTA (enc := (fun z => z)) (encB := PyData.bool) (own := [("each", 9)]) (g := gName 9) (ix := [9]) (f := (fun z env => (env.set 9 (.dat z)))) nd (i_list (dv 8 rfl)) (by
          first | (rw [List.length_range, List.length_map]; omega) | (rw [PySem.sizeLine_eq, List.length_map]; omega) | (rw [PySem.sizeLine_eq]; simp; done) | (show 6 ≤ 1000000; decide) | omega | skip) (by first | (show blkC ["script", "draws", "model", "kept", "kinds", "due", "sizes", "law", "told", "each", "row", "element", "i", "term"] (defScope s_law) _ [("each", 9)] = true; decide +kernel) | kernel_rfl) (fun s H C cl fp => (pg_name (i := 9) nd rfl (by first | exact .inl rfl | exact .inr rfl))) (fun z hz => asg_name) (by decide) (fun z hz s H C cl fp => (e_isiD B.isinstance (m1 := true) (dv 9 rfl) (ty_list B.list) (by
          exact told6_isl _ hz)))))))) (fun hq => (w_one (c_neS (m := true) (m1 := true) (m2 := true) (e_reprD (m1 := true) rfl (hu80 hr) B.repr (dv 2 rfl) rfl (by
          exact hrp) (by decide) (by rw [PySem.sizeLine_eq]; decide)) (dv 3 rfl)).2))))))) ?_ ?_
  · show (!PyData.eqv (eL (fun z => z) (told6L m)) (eL (fun z => z) (dueL m)) || _) = false
    rw [due_eq hF, told_refl hT]; simp
  refine c_forTrE (up := (fun z => z)) (i := 8) (j := 9) (([zaT m, zbT m, zcT m] : List TT)) (gg3) (g3b) (rsT m) (fun i => [(10, .no)]) PassesOwn.never UpOk.id rfl (by rfl) (by rfl) (by rfl) (trg_to (pl_name 8 rfl (by first | exact .inl rfl | exact .inr (.inl rfl)) rfl) e_int (by exact ⟨by decide, by show (3 : Int) ≤ ((6 : Nat) : Int); decide⟩)) nd rfl (by decide) (show 9 < 14 from by decide) ⟨.inr rfl, ⟨.inr rfl, ⟨.inr rfl, ⟨.inr rfl, ⟨.inr rfl, ⟨.inr rfl, ⟨.inr rfl, ⟨.inr rfl, ⟨.inr rfl, ⟨.inr rfl, ⟨.inl rfl, ⟨.inr rfl, ⟨.inr rfl, ⟨.inr rfl, trivial⟩⟩⟩⟩⟩⟩⟩⟩⟩⟩⟩⟩⟩⟩ (fun _ => rfl) (fun i1 z1 w1 t1 hz1 => ?_) ?_
  · have hr3 := fun r hr => (rows3 hF _ (List.mem_of_getElem? hz1)).2 r hr
    refine s_env (env' := [_, _, _, _, _, _, _, _, _, _, _, _, _, _]) rfl ?_
    refine c_forTrN (up := (fun z => z)) (i := 9) (j := 10) (z1) (Tr.node) (g77) (fun i => []) PassesOwn.never UpOk.id rfl rfl (by simp) (trg_all (pl_name 9 rfl (by first | exact .inl rfl | exact .inr (.inl rfl)) rfl)) nd rfl (by decide) (show 10 < 14 from by decide) ⟨.inr rfl, ⟨.inr rfl, ⟨.inr rfl, ⟨.inr rfl, ⟨.inr rfl, ⟨.inr rfl, ⟨.inr rfl, ⟨.inr rfl, ⟨.inr rfl, ⟨.inr rfl, ⟨.inr rfl, ⟨.inr rfl, ⟨.inr rfl, ⟨.inr rfl, trivial⟩⟩⟩⟩⟩⟩⟩⟩⟩⟩⟩⟩⟩⟩ (fun _ => rfl) (fun i2 z2 w2 t2 hz2 => ?_) ?_
    · have hr4 := hr3 _ (List.mem_of_getElem? hz2)
      refine s_env (env' := [_, _, _, _, _, _, _, _, _, _, _, _, _, _]) rfl ?_
      refine s_then (s_appTr (i := 10) (up := (fun z => z)) rfl (pl_name 10 rfl (by first | exact .inl rfl | exact .inr (.inl rfl)) rfl) (tr_e e_int) (by
              first | omega | (rw [List.length_map]; omega) | skip) rfl rfl) ?_
      refine s_env (env' := [_, _, _, _, _, _, _, _, _, _, _, _, _, _]) rfl ?_
      refine s_nil ⟨.inr rfl, ⟨.inr rfl, ⟨.inr rfl, ⟨.inr rfl, ⟨.inr rfl, ⟨.inr rfl, ⟨.inr rfl, ⟨.inr rfl, ⟨.inr rfl, ⟨.inr rfl, ⟨.inr (by rfl), ⟨.inr rfl, ⟨.inr rfl, ⟨.inr rfl, trivial⟩⟩⟩⟩⟩⟩⟩⟩⟩⟩⟩⟩⟩⟩
    refine s_env (env' := [_, _, _, _, _, _, _, _, _, _, _, _, _, _]) rfl ?_
    refine s_nil ⟨.inr rfl, ⟨.inr rfl, ⟨.inr rfl, ⟨.inr rfl, ⟨.inr rfl, ⟨.inr rfl, ⟨.inr rfl, ⟨.inr rfl, ⟨.inr rfl, ⟨.inr (by rfl), ⟨.inl rfl, ⟨.inr rfl, ⟨.inr rfl, ⟨.inr rfl, trivial⟩⟩⟩⟩⟩⟩⟩⟩⟩⟩⟩⟩⟩⟩
  refine s_env (env' := [_, _, _, _, _, _, _, _, _, _, _, _, _, _]) rfl ?_
  refine c_forTrN (up := (fun z => (fun z => z) (Tr.node (List.set _ (1 : Int).toNat z)))) (i := 8) (j := 10) (zbT m) (g77) (g5) (fun i => [(11, .no)]) PassesOwn.never (UpOk.id.node (by first | decide | (show 1 < 6; decide))) rfl rfl (by simp) (trg_all (pl_ix (pl_name 8 rfl (by first | exact .inl rfl | exact .inr (.inl rfl)) rfl) e_int (by decide) rfl)) nd rfl (by decide) (show 10 < 14 from by decide) ⟨.inr rfl, ⟨.inr rfl, ⟨.inr rfl, ⟨.inr rfl, ⟨.inr rfl, ⟨.inr rfl, ⟨.inr rfl, ⟨.inr rfl, ⟨.inr rfl, ⟨.inr rfl, ⟨.inr rfl, ⟨.inl rfl, ⟨.inr rfl, ⟨.inr rfl, trivial⟩⟩⟩⟩⟩⟩⟩⟩⟩⟩⟩⟩⟩⟩ (fun _ => rfl) (fun i1 z1 w1 t1 hz1 => ?_) ?_
  · obtain ⟨r1, rfl, hr5⟩ := zb_row (List.mem_of_getElem? hz1)
    refine s_env (env' := [_, _, _, _, _, _, _, _, _, _, _, _, _, _]) rfl ?_
    refine c_forTrE (up := (fun z => z)) (i := 10) (j := 11) (r1) (nT (lf PyData.int)) (fun e => Tr.node (e.map (lf PyData.int) ++ [Tr.leaf (.int 5)])) ([Tr.leaf (.int 77)]) (fun i => []) PassesOwn.never UpOk.id rfl (by rfl) (by rfl) (by simp) (trg_to (pl_name 10 rfl (by first | exact .inl rfl | exact .inr (.inl rfl)) rfl) (e_sub (e_lenTr (up := fun z => z) rfl B.len (pl_name 10 rfl (by first | exact .inl rfl | exact .inr (.inl rfl)) rfl)) e_int) (by simp; omega)) nd rfl (by decide) (show 11 < 14 from by decide) ⟨.inr rfl, ⟨.inr rfl, ⟨.inr rfl, ⟨.inr rfl, ⟨.inr rfl, ⟨.inr rfl, ⟨.inr rfl, ⟨.inr rfl, ⟨.inr rfl, ⟨.inr rfl, ⟨.inr rfl, ⟨.inr rfl, ⟨.inr rfl, ⟨.inr rfl, trivial⟩⟩⟩⟩⟩⟩⟩⟩⟩⟩⟩⟩⟩⟩ (fun _ => rfl) (fun i2 z2 w2 t2 hz2 => ?_) ?_
    · have hr7 := hr5 _ (List.mem_of_getElem? hz2)
      refine s_env (env' := [_, _, _, _, _, _, _, _, _, _, _, _, _, _]) rfl ?_
      refine s_then (s_appTr (i := 11) (up := (fun z => z)) rfl (pl_name 11 rfl (by first | exact .inl rfl | exact .inr (.inl rfl)) rfl) (tr_e e_int) (by
              first | omega | (rw [List.length_map]; omega) | skip) rfl rfl) ?_
      refine s_env (env' := [_, _, _, _, _, _, _, _, _, _, _, _, _, _]) rfl ?_
      refine s_nil ⟨.inr rfl, ⟨.inr rfl, ⟨.inr rfl, ⟨.inr rfl, ⟨.inr rfl, ⟨.inr rfl, ⟨.inr rfl, ⟨.inr rfl, ⟨.inr rfl, ⟨.inr rfl, ⟨.inr rfl, ⟨.inr (by rfl), ⟨.inr rfl, ⟨.inr rfl, trivial⟩⟩⟩⟩⟩⟩⟩⟩⟩⟩⟩⟩⟩⟩
    refine s_env (env' := [_, _, _, _, _, _, _, _, _, _, _, _, _, _]) rfl ?_
    refine s_nil ⟨.inr rfl, ⟨.inr rfl, ⟨.inr rfl, ⟨.inr rfl, ⟨.inr rfl, ⟨.inr rfl, ⟨.inr rfl, ⟨.inr rfl, ⟨.inr rfl, ⟨.inr rfl, ⟨.inr (by show Sl.tr _ (Tr.node _) = Sl.tr _ (Tr.node _); rw [List.map_map]; rfl), ⟨.inl rfl, ⟨.inr rfl, ⟨.inr rfl, trivial⟩⟩⟩⟩⟩⟩⟩⟩⟩⟩⟩⟩⟩⟩
  refine s_env (env' := [_, _, _, _, _, _, _, _, _, _, _, _, _, _]) rfl ?_
  refine c_forTrE (up := (fun z => z)) (i := 8) (j := 9) (six m) (Tr.node) (fun r => Tr.node (r ++ [Tr.leaf (.int 1)])) ([]) (fun i => []) PassesOwn.never UpOk.id rfl (by rfl) (by rfl) (by rfl) (trg_all (pl_name 8 rfl (by first | exact .inl rfl | exact .inr (.inl rfl)) rfl)) nd rfl (by decide) (show 9 < 14 from by decide) ⟨.inr rfl, ⟨.inr rfl, ⟨.inr rfl, ⟨.inr rfl, ⟨.inr rfl, ⟨.inr rfl, ⟨.inr rfl, ⟨.inr rfl, ⟨.inr rfl, ⟨.inr rfl, ⟨.inr rfl, ⟨.inr rfl, ⟨.inr rfl, ⟨.inr rfl, trivial⟩⟩⟩⟩⟩⟩⟩⟩⟩⟩⟩⟩⟩⟩ (fun _ => rfl) (fun i1 z1 w1 t1 hz1 => ?_) ?_
  · have hr6 := six_len hF _ (List.mem_of_getElem? hz1)
    refine s_env (env' := [_, _, _, _, _, _, _, _, _, _, _, _, _, _]) rfl ?_
    refine s_then (s_appTr (i := 9) (up := (fun z => z)) rfl (pl_name 9 rfl (by first | exact .inl rfl | exact .inr (.inl rfl)) rfl) (tr_e e_int) (by
            first | omega | (rw [List.length_map]; omega) | skip) rfl rfl) ?_
    refine s_env (env' := [_, _, _, _, _, _, _, _, _, _, _, _, _, _]) rfl ?_
    refine s_nil ⟨.inr rfl, ⟨.inr rfl, ⟨.inr rfl, ⟨.inr rfl, ⟨.inr rfl, ⟨.inr rfl, ⟨.inr rfl, ⟨.inr rfl, ⟨.inr rfl, ⟨.inr (by rfl), ⟨.inr rfl, ⟨.inr rfl, ⟨.inr rfl, ⟨.inr rfl, trivial⟩⟩⟩⟩⟩⟩⟩⟩⟩⟩⟩⟩⟩⟩
  refine s_env (env' := [_, _, _, _, _, _, _, _, _, _, _, _, _, _]) rfl ?_
  exact s_last (s_ret (e_and (c_eqD (m1 := true) (m2 := false) hr.units (e_Tr (tr_call D__law_told hr (a_cons (m := true) (dv 2 rfl) (a_nil (m := true))) rfl ⟨_, rfl, (by
          first | exact hF | omega), (by
          rfl)⟩) td6) (e_l (ov 5 rfl)) (by
          first | exact hsh | (show SeqAt.shaped (eL (fun z => z) (dueL m)) = true; rw [due_eq hF]; exact hsh)) (by
          first | exact hsh | (show SeqAt.shaped (eL (fun z => z) (dueL m)) = true; rw [due_eq hF]; exact hsh))).1 (fun hq => (e_one (c_eqS (m1 := true) (m2 := true) (e_reprD (m1 := true) rfl (hu80 hr) B.repr (dv 2 rfl) rfl (by
          exact hrp) (by decide) (by rw [PySem.sizeLine_eq]; decide)) (dv 3 rfl)).1))) (by
          show RS.dat (.bool (PyData.eqv (eL (fun z => z) (told6L m)) (eL (fun z => z) (dueL m)) && decide _)) = RS.dat (.bool true)
          rw [due_eq hF, told_refl hT]; simp))
/-! ### the head: facts by names, the run -/
def dOf (x : Str) (i : Nat) : He.DefD := ⟨(x, none), x, x, defArgs (topS i), defBody (topS i), defScope (topS i), [], []⟩
def fnL : List He.DefD := [dOf "trimmed" 1, dOf "_law_draws" 15, dOf "_law_at" 16, dOf "_law_name" 17, dOf "_law_quantities" 18, dOf "_law_places" 19, dOf "_law_one" 20, dOf "_law_long" 21, dOf "_law_model" 22, dOf "terms_of" 4, dOf "places_of" 5, dOf "sizes_of" 6, dOf "power" 7, dOf "powers" 8, dOf "exact_row" 9, dOf "exact_table" 10, dOf "meetings" 11, dOf "exact_laws" 12, dOf "sized_laws" 13, dOf "_law_places_of" 23, dOf "_law_powers" 24, dOf "_law_table" 25, dOf "_law_meetings" 26, dOf "_law_told" 27, dOf "law" 28]
def faL : List He.Fa := [.glo "trimmed", .glo "_law_draws", .glo "_law_at", .glo "_law_name", .glo "_law_quantities", .glo "_law_places", .glo "_law_one", .glo "_law_long", .glo "_law_model", .glo "terms_of", .glo "places_of", .glo "sizes_of", .glo "power", .glo "powers", .glo "exact_row", .glo "exact_table", .glo "meetings", .glo "exact_laws", .glo "sized_laws", .glo "_law_places_of", .glo "_law_powers", .glo "_law_table", .glo "_law_meetings", .glo "_law_told", .glo "law", .free "len", .free "range", .free "list", .free "int", .free "abs", .free "max", .free "min", .free "all", .free "any", .free "isinstance", .free "bool", .free "repr", .free "sum", .free "sorted", .free "set", .free "str", .free "tuple", .free "enumerate", .free "zip", .free "reversed", .int "MOST_ORDER" 3]
abbrev RR : PySem.W.OpenRow := PySem.W.OpenLaw.row PySem.Challenge.rw_unsaidsizes_k06_tables_of_a_model
def looseL : List Str := "trimmed" :: "terms_of" :: "places_of" :: "sizes_of" :: "power" :: "powers" :: "exact_row" :: "exact_table" :: "meetings" :: "exact_laws" :: "sized_laws" :: "_law_draws" :: "_law_at" :: "_law_name" :: "_law_quantities" :: "_law_places" :: "_law_one" :: "_law_long" :: "_law_model" :: "_law_places_of" :: "_law_powers" :: "_law_table" :: "_law_meetings" :: "_law_told" :: "MOST_ORDER" :: []
abbrev hk : PySem.W.Hook := He.hookD 4 faL fnL
def ob (s : PySem.W.SharedT) : He.AlD := He.obsDG 4 faL fnL (HandSHeadRun.getT s)
theorem ob_eq (s : PySem.W.SharedT) : ob s = hk.obs s.abs := He.obsDG_eq (HandSHeadRun.getT_eq s)
theorem run (w : World) : HandSHeadRun.RunEq RR (PySem.W.view RR.prog [28]) hk ob 2000 looseL w := by
  intro os
  kernel_rfl
theorem facts {P : Program} {w : World} {K : PySem.W.Frag} {h : Heap} {mg : Str → Option Value} {f : Addr} (X : K.In h) (G : h.Ns mainGlobals mg) (hfa : mg ("law" : Str) = some (.ref f)) (c : He.SaysD faL fnL K) :
    ∃ fd : FuncData, (∀ (s : Shared) (v : Value), BindsTo s fd ⟨[v], []⟩ [("script", v)]) ∧ LawAt P w K mg 5 f fd R_law := by
  have B : Bt mg := ⟨He.free_ok X G (c.fact 25 (f := .free "len") rfl), He.free_ok X G (c.fact 26 (f := .free "range") rfl), He.free_ok X G (c.fact 27 (f := .free "list") rfl), He.free_ok X G (c.fact 28 (f := .free "int") rfl), He.free_ok X G (c.fact 29 (f := .free "abs") rfl), He.free_ok X G (c.fact 30 (f := .free "max") rfl), He.free_ok X G (c.fact 31 (f := .free "min") rfl), He.free_ok X G (c.fact 32 (f := .free "all") rfl), He.free_ok X G (c.fact 33 (f := .free "any") rfl), He.free_ok X G (c.fact 34 (f := .free "isinstance") rfl), He.free_ok X G (c.fact 35 (f := .free "bool") rfl), He.free_ok X G (c.fact 36 (f := .free "repr") rfl), He.free_ok X G (c.fact 37 (f := .free "sum") rfl), He.free_ok X G (c.fact 38 (f := .free "sorted") rfl), He.free_ok X G (c.fact 39 (f := .free "set") rfl), He.free_ok X G (c.fact 40 (f := .free "str") rfl), He.free_ok X G (c.fact 41 (f := .free "tuple") rfl), He.free_ok X G (c.fact 42 (f := .free "enumerate") rfl), He.free_ok X G (c.fact 43 (f := .free "zip") rfl), He.free_ok X G (c.fact 44 (f := .free "reversed") rfl)⟩
  have T : Tc K mg := ⟨He.int_ok X G (c.fact 45 rfl)⟩
  obtain ⟨fd0, F0⟩ := c.def_ 0 (d := dOf "trimmed" 1) rfl
  have A0 : At K mg "trimmed" s_trimmed ["numbers"] := ⟨⟨_, fd0, F0, He.glo_ok X G (c.fact 0 (f := .glo "trimmed") rfl), FunD.bindsN F0 fun _ _ _ _ _ _ us hl => match us, hl with | [_], _ => rfl⟩⟩
  obtain ⟨fd1, F1⟩ := c.def_ 1 (d := dOf "_law_draws" 15) rfl
  have A1 : At K mg "_law_draws" s__law_draws ["script"] := ⟨⟨_, fd1, F1, He.glo_ok X G (c.fact 1 (f := .glo "_law_draws") rfl), FunD.bindsN F1 fun _ _ _ _ _ _ us hl => match us, hl with | [_], _ => rfl⟩⟩
  obtain ⟨fd2, F2⟩ := c.def_ 2 (d := dOf "_law_at" 16) rfl
  have A2 : At K mg "_law_at" s__law_at ["draws", "k", "many"] := ⟨⟨_, fd2, F2, He.glo_ok X G (c.fact 2 (f := .glo "_law_at") rfl), FunD.bindsN F2 fun _ _ _ _ _ _ us hl => match us, hl with | [_, _, _], _ => rfl⟩⟩
  obtain ⟨fd3, F3⟩ := c.def_ 3 (d := dOf "_law_name" 17) rfl
  have A3 : At K mg "_law_name" s__law_name ["draws", "k"] := ⟨⟨_, fd3, F3, He.glo_ok X G (c.fact 3 (f := .glo "_law_name") rfl), FunD.bindsN F3 fun _ _ _ _ _ _ us hl => match us, hl with | [_, _], _ => rfl⟩⟩
  obtain ⟨fd4, F4⟩ := c.def_ 4 (d := dOf "_law_quantities" 18) rfl
  have A4 : At K mg "_law_quantities" s__law_quantities ["draws", "k", "many"] := ⟨⟨_, fd4, F4, He.glo_ok X G (c.fact 4 (f := .glo "_law_quantities") rfl), FunD.bindsN F4 fun _ _ _ _ _ _ us hl => match us, hl with | [_, _, _], _ => rfl⟩⟩
  obtain ⟨fd5, F5⟩ := c.def_ 5 (d := dOf "_law_places" 19) rfl
  have A5 : At K mg "_law_places" s__law_places ["draws", "k", "many", "size"] := ⟨⟨_, fd5, F5, He.glo_ok X G (c.fact 5 (f := .glo "_law_places") rfl), FunD.bindsN F5 fun _ _ _ _ _ _ us hl => match us, hl with | [_, _, _, _], _ => rfl⟩⟩
  obtain ⟨fd6, F6⟩ := c.def_ 6 (d := dOf "_law_one" 20) rfl
  have A6 : At K mg "_law_one" s__law_one ["draws", "k", "many", "number"] := ⟨⟨_, fd6, F6, He.glo_ok X G (c.fact 6 (f := .glo "_law_one") rfl), FunD.bindsN F6 fun _ _ _ _ _ _ us hl => match us, hl with | [_, _, _, _], _ => rfl⟩⟩
  obtain ⟨fd7, F7⟩ := c.def_ 7 (d := dOf "_law_long" 21) rfl
  have A7 : At K mg "_law_long" s__law_long ["draws", "first", "many"] := ⟨⟨_, fd7, F7, He.glo_ok X G (c.fact 7 (f := .glo "_law_long") rfl), FunD.bindsN F7 fun _ _ _ _ _ _ us hl => match us, hl with | [_, _, _], _ => rfl⟩⟩
  obtain ⟨fd8, F8⟩ := c.def_ 8 (d := dOf "_law_model" 22) rfl
  have A8 : At K mg "_law_model" s__law_model ["draws", "first"] := ⟨⟨_, fd8, F8, He.glo_ok X G (c.fact 8 (f := .glo "_law_model") rfl), FunD.bindsN F8 fun _ _ _ _ _ _ us hl => match us, hl with | [_, _], _ => rfl⟩⟩
  obtain ⟨fd9, F9⟩ := c.def_ 9 (d := dOf "terms_of" 4) rfl
  have A9 : At K mg "terms_of" s_terms_of ["row"] := ⟨⟨_, fd9, F9, He.glo_ok X G (c.fact 9 (f := .glo "terms_of") rfl), FunD.bindsN F9 fun _ _ _ _ _ _ us hl => match us, hl with | [_], _ => rfl⟩⟩
  obtain ⟨fd10, F10⟩ := c.def_ 10 (d := dOf "places_of" 5) rfl
  have A10 : At K mg "places_of" s_places_of ["row"] := ⟨⟨_, fd10, F10, He.glo_ok X G (c.fact 10 (f := .glo "places_of") rfl), FunD.bindsN F10 fun _ _ _ _ _ _ us hl => match us, hl with | [_], _ => rfl⟩⟩
  obtain ⟨fd11, F11⟩ := c.def_ 11 (d := dOf "sizes_of" 6) rfl
  have A11 : At K mg "sizes_of" s_sizes_of ["model"] := ⟨⟨_, fd11, F11, He.glo_ok X G (c.fact 11 (f := .glo "sizes_of") rfl), FunD.bindsN F11 fun _ _ _ _ _ _ us hl => match us, hl with | [_], _ => rfl⟩⟩
  obtain ⟨fd12, F12⟩ := c.def_ 12 (d := dOf "power" 7) rfl
  have A12 : At K mg "power" s_power ["row", "quantity"] := ⟨⟨_, fd12, F12, He.glo_ok X G (c.fact 12 (f := .glo "power") rfl), FunD.bindsN F12 fun _ _ _ _ _ _ us hl => match us, hl with | [_, _], _ => rfl⟩⟩
  obtain ⟨fd13, F13⟩ := c.def_ 13 (d := dOf "powers" 8) rfl
  have A13 : At K mg "powers" s_powers ["model"] := ⟨⟨_, fd13, F13, He.glo_ok X G (c.fact 13 (f := .glo "powers") rfl), FunD.bindsN F13 fun _ _ _ _ _ _ us hl => match us, hl with | [_], _ => rfl⟩⟩
  obtain ⟨fd14, F14⟩ := c.def_ 14 (d := dOf "exact_row" 9) rfl
  have A14 : At K mg "exact_row" s_exact_row ["row", "many"] := ⟨⟨_, fd14, F14, He.glo_ok X G (c.fact 14 (f := .glo "exact_row") rfl), FunD.bindsN F14 fun _ _ _ _ _ _ us hl => match us, hl with | [_, _], _ => rfl⟩⟩
  obtain ⟨fd15, F15⟩ := c.def_ 15 (d := dOf "exact_table" 10) rfl
  have A15 : At K mg "exact_table" s_exact_table ["model"] := ⟨⟨_, fd15, F15, He.glo_ok X G (c.fact 15 (f := .glo "exact_table") rfl), FunD.bindsN F15 fun _ _ _ _ _ _ us hl => match us, hl with | [_], _ => rfl⟩⟩
  obtain ⟨fd16, F16⟩ := c.def_ 16 (d := dOf "meetings" 11) rfl
  have A16 : At K mg "meetings" s_meetings ["model"] := ⟨⟨_, fd16, F16, He.glo_ok X G (c.fact 16 (f := .glo "meetings") rfl), FunD.bindsN F16 fun _ _ _ _ _ _ us hl => match us, hl with | [_], _ => rfl⟩⟩
  obtain ⟨fd17, F17⟩ := c.def_ 17 (d := dOf "exact_laws" 12) rfl
  have A17 : At K mg "exact_laws" s_exact_laws ["model"] := ⟨⟨_, fd17, F17, He.glo_ok X G (c.fact 17 (f := .glo "exact_laws") rfl), FunD.bindsN F17 fun _ _ _ _ _ _ us hl => match us, hl with | [_], _ => rfl⟩⟩
  obtain ⟨fd18, F18⟩ := c.def_ 18 (d := dOf "sized_laws" 13) rfl
  have A18 : At K mg "sized_laws" s_sized_laws ["model"] := ⟨⟨_, fd18, F18, He.glo_ok X G (c.fact 18 (f := .glo "sized_laws") rfl), FunD.bindsN F18 fun _ _ _ _ _ _ us hl => match us, hl with | [_], _ => rfl⟩⟩
  obtain ⟨fd19, F19⟩ := c.def_ 19 (d := dOf "_law_places_of" 23) rfl
  have A19 : At K mg "_law_places_of" s__law_places_of ["law"] := ⟨⟨_, fd19, F19, He.glo_ok X G (c.fact 19 (f := .glo "_law_places_of") rfl), FunD.bindsN F19 fun _ _ _ _ _ _ us hl => match us, hl with | [_], _ => rfl⟩⟩
  obtain ⟨fd20, F20⟩ := c.def_ 20 (d := dOf "_law_powers" 24) rfl
  have A20 : At K mg "_law_powers" s__law_powers ["model"] := ⟨⟨_, fd20, F20, He.glo_ok X G (c.fact 20 (f := .glo "_law_powers") rfl), FunD.bindsN F20 fun _ _ _ _ _ _ us hl => match us, hl with | [_], _ => rfl⟩⟩
  obtain ⟨fd21, F21⟩ := c.def_ 21 (d := dOf "_law_table" 25) rfl
  have A21 : At K mg "_law_table" s__law_table ["model"] := ⟨⟨_, fd21, F21, He.glo_ok X G (c.fact 21 (f := .glo "_law_table") rfl), FunD.bindsN F21 fun _ _ _ _ _ _ us hl => match us, hl with | [_], _ => rfl⟩⟩
  obtain ⟨fd22, F22⟩ := c.def_ 22 (d := dOf "_law_meetings" 26) rfl
  have A22 : At K mg "_law_meetings" s__law_meetings ["model"] := ⟨⟨_, fd22, F22, He.glo_ok X G (c.fact 22 (f := .glo "_law_meetings") rfl), FunD.bindsN F22 fun _ _ _ _ _ _ us hl => match us, hl with | [_], _ => rfl⟩⟩
  obtain ⟨fd23, F23⟩ := c.def_ 23 (d := dOf "_law_told" 27) rfl
  have A23 : At K mg "_law_told" s__law_told ["model"] := ⟨⟨_, fd23, F23, He.glo_ok X G (c.fact 23 (f := .glo "_law_told") rfl), FunD.bindsN F23 fun _ _ _ _ _ _ us hl => match us, hl with | [_], _ => rfl⟩⟩
  obtain ⟨fd24, F24⟩ := c.def_ 24 (d := dOf "law" 28) rfl
  have e := hfa.symm.trans (He.glo_ok X G (c.fact 24 (f := .glo "law") rfl))
  cases e
  have b := FunD.bindsA (ps := ["script"]) F24 fun _ _ _ _ _ _ us hl => match us, hl with | [_], _ => rfl
  refine ⟨fd24, fun s v => b s [v] rfl, ?_⟩
  have D_trimmed := fun base : Heap => ok_trimmed (P := P) (w := w) (base := base) (k := 0) B A0
  have D__law_draws := fun base : Heap => ok__law_draws (P := P) (w := w) (base := base) (k := 0) B A1
  have D__law_at := fun base : Heap => ok__law_at (P := P) (w := w) (base := base) (k := 0) B A2
  have D__law_name := fun base : Heap => ok__law_name (P := P) (w := w) (base := base) (k := 1) B ((D__law_at base).up (by decide)) A3
  have D__law_quantities := fun base : Heap => ok__law_quantities (P := P) (w := w) (base := base) (k := 2) B ((D__law_name base).up (by decide)) A4
  have D__law_places := fun base : Heap => ok__law_places (P := P) (w := w) (base := base) (k := 1) B ((D__law_at base).up (by decide)) A5
  have D__law_one := fun base : Heap => ok__law_one (P := P) (w := w) (base := base) (k := 2) B ((D__law_at base).up (by decide)) ((D__law_places base).up (by decide)) A6
  have D__law_long := fun base : Heap => ok__law_long (P := P) (w := w) (base := base) (k := 1) B ((D__law_at base).up (by decide)) A7
  have D__law_model := fun base : Heap => ok__law_model (P := P) (w := w) (base := base) (k := 3) B ((D__law_at base).up (by decide)) ((D__law_quantities base).up (by decide)) ((D__law_one base).up (by decide)) ((D__law_long base).up (by decide)) A8
  have D_terms_of := fun base : Heap => ok_terms_of (P := P) (w := w) (base := base) (k := 0) B A9
  have D_places_of := fun base : Heap => ok_places_of (P := P) (w := w) (base := base) (k := 1) B ((D_terms_of base).up (by decide)) A10
  have D_sizes_of := fun base : Heap => ok_sizes_of (P := P) (w := w) (base := base) (k := 0) B A11
  have D_power := fun base : Heap => ok_power (P := P) (w := w) (base := base) (k := 2) B ((D_places_of base).up (by decide)) A12
  have D_powers := fun base : Heap => ok_powers (P := P) (w := w) (base := base) (k := 3) B ((D_power base).up (by decide)) A13
  have D_exact_row := fun base : Heap => ok_exact_row (P := P) (w := w) (base := base) (k := 1) B ((D_trimmed base).up (by decide)) T A14
  have D_exact_table := fun base : Heap => ok_exact_table (P := P) (w := w) (base := base) (k := 2) B ((D_exact_row base).up (by decide)) A15
  have D_meetings := fun base : Heap => ok_meetings (P := P) (w := w) (base := base) (k := 2) B ((D_places_of base).up (by decide)) A16
  have D_exact_laws := fun base : Heap => ok_exact_laws (P := P) (w := w) (base := base) (k := 0) B A17
  have D_sized_laws := fun base : Heap => ok_sized_laws (P := P) (w := w) (base := base) (k := 0) B A18
  have D__law_places_of := fun base : Heap => ok__law_places_of (P := P) (w := w) (base := base) (k := 0) B A19
  have D__law_powers := fun base : Heap => ok__law_powers (P := P) (w := w) (base := base) (k := 1) B ((D__law_places_of base).up (by decide)) A20
  have D__law_table := fun base : Heap => ok__law_table (P := P) (w := w) (base := base) (k := 0) B A21
  have D__law_meetings := fun base : Heap => ok__law_meetings (P := P) (w := w) (base := base) (k := 1) B ((D__law_places_of base).up (by decide)) A22
  have D__law_told := fun base : Heap => ok__law_told (P := P) (w := w) (base := base) (k := 4) B ((D_powers base).up (by decide)) ((D_exact_table base).up (by decide)) ((D_meetings base).up (by decide)) ((D_exact_laws base).up (by decide)) ((D_sized_laws base).up (by decide)) ((D_sizes_of base).up (by decide)) A23
  exact ok_law (k := 5) B (fun base => (D__law_draws base).up (by decide)) (fun base => (D__law_model base).up (by decide)) (fun base => (D__law_told base).up (by decide)) (fun base => (D__law_powers base).up (by decide)) (fun base => (D__law_table base).up (by decide)) (fun base => (D__law_meetings base).up (by decide)) F24 ⟨rfl, by decide, by decide⟩
end W3
open PySem PySem.W PySem.Calls PyProof.Rows
theorem PySem.Challenge.cw_unsaidsizes_k06_tables_of_a_model_holds : PySem.Challenge.rw_unsaidsizes_k06_tables_of_a_model.Holds := by
  w_on; o_law
  refine HandSHeadRun.head_any (r := OpenLaw.row PySem.Challenge.rw_unsaidsizes_k06_tables_of_a_model) (q := view (OpenLaw.row PySem.Challenge.rw_unsaidsizes_k06_tables_of_a_model).prog [28]) (H := W3.hk) (ob := W3.ob) (M := 2000) (loose := W3.looseL) (d := HandSHeadRun.topDef (OpenLaw.row PySem.Challenge.rw_unsaidsizes_k06_tables_of_a_model).prog 28) (kwd := []) W3.ob_eq
    (by kernel_rfl) (fun s => by kernel_rfl) W3.run (by kernel_rfl) (by kernel_rfl) (by kernel_rfl) (by rfl) (by first | assumption | decide +kernel) (by decide +kernel) ⟨rfl, rfl, rfl, rfl, rfl, by decide +kernel⟩ ?hw ?hc
  case hw => w_witness2
  case hc =>
    refine D3.walk_law (l := PySem.Challenge.rw_unsaidsizes_k06_tables_of_a_model) (k := 5) rfl (by kernel_rfl) ?F
    intro w mg fa h Y G hmg0
    obtain ⟨K, KX, c⟩ := Y
    have hmg : mg ("law" : PySem.Str) = some (.ref fa) := by
      have e : (HandSHeadRun.topDef (OpenLaw.row PySem.Challenge.rw_unsaidsizes_k06_tables_of_a_model).prog 28).name = ("law" : PySem.Str) := by kernel_rfl
      rw [← e]
      exact hmg0
    obtain ⟨fd, hb, hF⟩ := W3.facts (P := (PySem.Challenge.rw_unsaidsizes_k06_tables_of_a_model).prog) (w := w) KX G hmg c
    exact ⟨K, fd, KX, hb, hF⟩
