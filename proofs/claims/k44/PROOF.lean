import PyProof.Rows.All
import Wide.All
import OpenK.AllK
import Wide.FinOn
import HandS.ForMost
import HandS.ForExc
import HandS.Zip
import HandS.TupAny
import HandS.TupMul
import HandS.TupLe
import HandS.Wide
import HandS.Deep
import HandS.SortInts
import HandS.Style
import HandS.Ends
import HandS.IsInst
import HandS.SetFor
import HandS.AnyAll
import KE.KSuper
import KE.KExcSuper
import HandS.ExcSuper
import HandS.ExcIs
import HandS.ExcValue
import HandS.ExcField
import HandS.Gcd
import PySem.Challenge.RW_cutswhole_k44_fewest_coins
section
set_option Elab.async false
set_option linter.all false
set_option maxRecDepth 100000
/-! The data layer: expressions and statements tied to plain Lean programs over data (PyData) and slots. -/
namespace L2.DL
open PySem PySem.Spec PyProof.Rows
set_option autoImplicit false

abbrev Fg := PySem.W.Frag
/-- what a slot is known to hold: data; a list that nobody else holds (b: it came in as a parameter); an error object -/
inductive Slot where
  | val (d : PyData)
  | own (b : Bool) (ds : List PyData)
  | exc (nm : Str) (d : PyData)
abbrev EnvD := List (Option Slot)

/-! ### data that lies in the heap, none of its lists in O -/
mutual
inductive Dq (K : Fg) (H : Hp) (O : Addr → Prop) : V → PyData → Prop
  | non : Dq K H O .non .none
  | bl (b : Bool) : Dq K H O (.bl b) (.bool b)
  | int (i : Int) : Dq K H O (.int i) (.int i)
  | str (x : Str) : Dq K H O (.str x) (.str x)
  | lst {a : Addr} {xs : List V} {ds : List PyData} : ¬ O a → Rd H a (.lst xs) → DqAll K H O xs ds → Dq K H O (.ref a) (.list ds)
  | tup {a : Addr} {xs : List V} {ds : List PyData} : SqT K H a xs → DqAll K H O xs ds → Dq K H O (.ref a) (.tuple ds)
inductive DqAll (K : Fg) (H : Hp) (O : Addr → Prop) : List V → List PyData → Prop
  | nil : DqAll K H O [] []
  | cons {v : V} {vs : List V} {d : PyData} {ds : List PyData} : Dq K H O v d → DqAll K H O vs ds → DqAll K H O (v :: vs) (d :: ds)
end
section
variable {K : Fg} {H H' : Hp} {O O' : Addr → Prop}
/-- what a change leaves: all that is tracked and not in O -/
structure Kp (O O' : Addr → Prop) (H H' : Hp) : Prop where
  keep : ∀ q o, H q = some o → ¬ O q → H' q = some o
  lsts : ∀ q, O q → ∃ xs, H q = some (.lst xs)
  less : ∀ q, O' q → O q ∨ H q = none
theorem Rd.some {H : Hp} {a : Addr} {u : HO} (r : Rd H a u) : ∃ o, H a = some o := by
  rcases r with r | ⟨o, r⟩
  · exact ⟨_, r⟩
  · exact ⟨_, r⟩
theorem Kp.rd {a : Addr} {u : HO} (k : Kp O O' H H') (h : ¬ O a) (r : Rd H a u) : Rd H' a u ∧ ¬ O' a := by
  refine ⟨?_, fun z => ?_⟩
  · rcases r with r | ⟨o, r⟩
    · exact .inl (k.keep _ _ r h)
    · exact .inr ⟨o, k.keep _ _ r h⟩
  · obtain ⟨o, e⟩ := Rd.some r
    rcases k.less _ z with q | q
    · exact h q
    · rw [q] at e; cases e
theorem Kp.tup {a : Addr} {xs : List V} (k : Kp O O' H H') (r : SqT K H a xs) : SqT K H' a xs := by
  rcases r with r | r
  · refine .inl (k.rd (fun z => ?_) r).1
    obtain ⟨ys, e⟩ := k.lsts _ z
    rcases r with r | ⟨o, r⟩
    · rw [r] at e; cases e
    · rw [r] at e; cases e
  · exact .inr r
mutual
theorem Dq.keep (k : Kp O O' H H') : ∀ (d : PyData) (v : V), Dq K H O v d → Dq K H' O' v d
  | .none, _, h => by cases h; exact .non
  | .bool b, _, h => by cases h; exact .bl b
  | .int i, _, h => by cases h; exact .int i
  | .str x, _, h => by cases h; exact .str x
  | .list ds, _, h => by
    cases h with
    | lst no r all =>
      have q := k.rd no r
      exact .lst q.2 q.1 (DqAll.keep k ds _ all)
  | .tuple ds, _, h => by
    cases h with
    | tup r all => exact .tup (k.tup r) (DqAll.keep k ds _ all)
  | .dict _, _, h => by cases h
theorem DqAll.keep (k : Kp O O' H H') : ∀ (ds : List PyData) (vs : List V), DqAll K H O vs ds → DqAll K H' O' vs ds
  | [], _, h => by cases h; exact .nil
  | d :: ds, _, h => by
    cases h with
    | cons h1 h2 => exact .cons (Dq.keep k d _ h1) (DqAll.keep k ds _ h2)
end
mutual
theorem Dq.dp : ∀ (d : PyData) (v : V), Dq K H O v d → Dp K H v d
  | .none, _, h => by cases h; exact .non
  | .bool b, _, h => by cases h; exact .bl b
  | .int i, _, h => by cases h; exact .int i
  | .str x, _, h => by cases h; exact .str x
  | .list ds, _, h => by
    cases h with
    | lst no r all => exact .lst (.inl r) (DqAll.dp ds _ all)
  | .tuple ds, _, h => by
    cases h with
    | tup r all => exact .tup r (DqAll.dp ds _ all)
  | .dict _, _, h => by cases h
theorem DqAll.dp : ∀ (ds : List PyData) (vs : List V), DqAll K H O vs ds → DpAll K H vs ds
  | [], _, h => by cases h; exact .nil
  | d :: ds, _, h => by
    cases h with
    | cons h1 h2 => exact .cons (Dq.dp d _ h1) (DqAll.dp ds _ h2)
end
mutual
/-- fewer lists to keep away from -/
theorem Dq.less (k : ∀ q, O' q → O q) : ∀ (d : PyData) (v : V), Dq K H O v d → Dq K H O' v d
  | .none, _, h => by cases h; exact .non
  | .bool b, _, h => by cases h; exact .bl b
  | .int i, _, h => by cases h; exact .int i
  | .str x, _, h => by cases h; exact .str x
  | .list ds, _, h => by
    cases h with
    | lst no r all => exact .lst (fun z => no (k _ z)) r (DqAll.less k ds _ all)
  | .tuple ds, _, h => by
    cases h with
    | tup r all => exact .tup r (DqAll.less k ds _ all)
  | .dict _, _, h => by cases h
theorem DqAll.less (k : ∀ q, O' q → O q) : ∀ (ds : List PyData) (vs : List V), DqAll K H O vs ds → DqAll K H O' vs ds
  | [], _, h => by cases h; exact .nil
  | d :: ds, _, h => by
    cases h with
    | cons h1 h2 => exact .cons (Dq.less k d _ h1) (DqAll.less k ds _ h2)
end
theorem DqAll.length : ∀ {ds : List PyData} {vs : List V}, DqAll K H O vs ds → vs.length = ds.length
  | [], _, h => by cases h; rfl
  | d :: ds, _, h => by
    cases h with
    | cons h1 h2 => simp [DqAll.length h2]
theorem DqAll.append : ∀ {ds es : List PyData} {vs ws : List V}, DqAll K H O vs ds → DqAll K H O ws es → DqAll K H O (vs ++ ws) (ds ++ es)
  | [], _, _, _, h, h' => by cases h; exact h'
  | d :: ds, _, _, _, h, h' => by
    cases h with
    | cons h1 h2 => exact .cons h1 (DqAll.append h2 h')
theorem DqAll.get : ∀ {ds : List PyData} {vs : List V} {i : Nat} {d : PyData}, DqAll K H O vs ds → ds[i]? = some d → ∃ v, vs[i]? = some v ∧ Dq K H O v d
  | [], _, _, _, h, e => by simp at e
  | d :: ds, _, 0, x, h, e => by
    cases h with
    | cons h1 h2 =>
      simp at e
      subst e
      exact ⟨_, rfl, h1⟩
  | d :: ds, _, i + 1, x, h, e => by
    cases h with
    | cons h1 h2 =>
      obtain ⟨v, a, b⟩ := DqAll.get (i := i) (d := x) h2 (by simpa using e)
      exact ⟨v, by simpa using a, b⟩
theorem DqAll.get' : ∀ {ds : List PyData} {vs : List V} {i : Nat} {v : V}, DqAll K H O vs ds → vs[i]? = some v → ∃ d, ds[i]? = some d ∧ Dq K H O v d
  | [], _, _, _, h, e => by cases h; simp at e
  | d :: ds, _, 0, x, h, e => by
    cases h with
    | cons h1 h2 =>
      simp at e
      subst e
      exact ⟨_, rfl, h1⟩
  | d :: ds, _, i + 1, x, h, e => by
    cases h with
    | cons h1 h2 =>
      obtain ⟨v, a, b⟩ := DqAll.get' (i := i) (v := x) h2 (by simpa using e)
      exact ⟨v, by simpa using a, b⟩
theorem DqAll.set : ∀ {ds : List PyData} {vs : List V} {v : V} {d : PyData} (i : Nat), DqAll K H O vs ds → Dq K H O v d → DqAll K H O (vs.set i v) (ds.set i d)
  | [], _, _, _, _, h, _ => by cases h; exact .nil
  | d :: ds, _, _, _, 0, h, q => by
    cases h with
    | cons h1 h2 => exact .cons q h2
  | d :: ds, _, _, _, i + 1, h, q => by
    cases h with
    | cons h1 h2 => exact .cons h1 (DqAll.set i h2 q)
theorem DqAll.take : ∀ {ds : List PyData} {vs : List V} (n : Nat), DqAll K H O vs ds → DqAll K H O (vs.take n) (ds.take n)
  | _, _, 0, h => by simpa using DqAll.nil
  | [], _, n + 1, h => by cases h; exact .nil
  | d :: ds, _, n + 1, h => by
    cases h with
    | cons h1 h2 => exact .cons h1 (DqAll.take n h2)
theorem DqAll.drop : ∀ {ds : List PyData} {vs : List V} (n : Nat), DqAll K H O vs ds → DqAll K H O (vs.drop n) (ds.drop n)
  | _, _, 0, h => h
  | [], _, n + 1, h => by cases h; exact .nil
  | d :: ds, _, n + 1, h => by
    cases h with
    | cons h1 h2 => exact DqAll.drop n h2
theorem DqAll.reverse {ds : List PyData} {vs : List V} (h : DqAll K H O vs ds) : DqAll K H O vs.reverse ds.reverse := by
  induction ds generalizing vs with
  | nil => cases h; exact .nil
  | cons d ds ih =>
    cases h with
    | cons h1 h2 =>
      rw [List.reverse_cons, List.reverse_cons]
      exact (ih h2).append (.cons h1 .nil)
end
end L2.DL
end
section
set_option Elab.async false
set_option linter.all false
set_option maxRecDepth 100000
namespace L2.DL
open PySem PySem.Spec PyProof.Rows
set_option autoImplicit false

/-! ### states -/
def OwnAt (σ : St) (η : EnvD) (a : Addr) : Prop := ∃ (i : Nat) (b : Bool) (ds : List PyData), η[i]? = some (some (.own b ds)) ∧ σ[i]? = some (some (.ref a))
/-- an own list of the frame's, none of a caller's -/
def FreeAt (σ : St) (η : EnvD) (a : Addr) : Prop := ∃ (i : Nat) (ds : List PyData), η[i]? = some (some (.own false ds)) ∧ σ[i]? = some (some (.ref a))
def Avd (σ : St) (η : EnvD) (T : Addr → Prop) (a : Addr) : Prop := T a ∨ OwnAt σ η a
/-- an error object at a, of the class that nm names -/
def ExAt (K : Fg) (mg : Str → Option Value) (H : Hp) (O : Addr → Prop) (a : Addr) (nm : Str) (d : PyData) : Prop :=
  ∃ (C dd : Addr) (v : V), mg nm = some (.ref C) ∧ (∃ φ : Heap → Prop, (∀ h, φ h → ∃ oe vs, h.get? a = some oe ∧ Zc (.ref C) (some dd) oe ∧ oe.data = .fields vs) ∧ H a = some (.ext φ)) ∧ H dd = some (.xd [(("value" : Str), v)]) ∧ Dq K H O v d
structure Rp (K : Fg) (mg : Str → Option Value) (σ : St) (H : Hp) (η : EnvD) (T : Addr → Prop) : Prop where
  val : ∀ (i : Nat) (d : PyData), η[i]? = some (some (.val d)) → ∃ v, σ[i]? = some (some v) ∧ Dq K H (Avd σ η T) v d
  own : ∀ (i : Nat) (b : Bool) (ds : List PyData), η[i]? = some (some (.own b ds)) → ∃ a vs, σ[i]? = some (some (.ref a)) ∧ H a = some (.lst vs) ∧ DqAll K H (Avd σ η T) vs ds ∧ ¬ T a
  exc : ∀ (i : Nat) (nm : Str) (d : PyData), η[i]? = some (some (.exc nm d)) → ∃ a, σ[i]? = some (some (.ref a)) ∧ ExAt K mg H (Avd σ η T) a nm d
  inj : ∀ (i j : Nat) (b b' : Bool) (ds ds' : List PyData) (a : Addr), η[i]? = some (some (.own b ds)) → η[j]? = some (some (.own b' ds')) → σ[i]? = some (some (.ref a)) → σ[j]? = some (some (.ref a)) → i = j
  tl : ∀ a, T a → ∃ xs, H a = some (.lst xs)
  len : η.length ≤ σ.length
structure StepS (σ : St) (H : Hp) (η : EnvD) (σ' : St) (H' : Hp) (η' : EnvD) : Prop where
  tr : ∀ q, H' q = none → H q = none
  keep : ∀ q o, H q = some o → ¬ OwnAt σ η q → H' q = some o
  le : ∀ q, OwnAt σ' η' q → OwnAt σ η q ∨ H q = none
  leF : ∀ q, FreeAt σ' η' q → FreeAt σ η q ∨ H q = none
  inn : ∀ (i : Nat) (ds' : List PyData), η'[i]? = some (some (.own true ds')) → (∃ ds : List PyData, η[i]? = some (some (.own true ds))) ∧ σ'[i]? = σ[i]?
section
variable {K : Fg} {mg : Str → Option Value} {σ σ1 σ2 : St} {H H1 H2 : Hp} {η η1 η2 : EnvD} {T T' : Addr → Prop}
theorem StepS.refl : StepS σ H η σ H η := ⟨fun _ h => h, fun _ _ h _ => h, fun _ h => .inl h, fun _ h => .inl h, fun i ds h => ⟨⟨ds, h⟩, rfl⟩⟩
theorem StepS.trans (a : StepS σ H η σ1 H1 η1) (b : StepS σ1 H1 η1 σ2 H2 η2) : StepS σ H η σ2 H2 η2 where
  tr := fun q h => a.tr q (b.tr q h)
  keep := fun q o h n => b.keep q o (a.keep q o h n) fun z => by
    rcases a.le q z with z | z
    · exact n z
    · rw [h] at z; cases z
  le := fun q z => by
    rcases b.le q z with z | z
    · exact a.le q z
    · cases e : H q with
      | none => exact .inr rfl
      | some o =>
        by_cases w : OwnAt σ η q
        · exact .inl w
        · rw [a.keep q o e w] at z; cases z
  leF := fun q z => by
    rcases b.leF q z with z | z
    · exact a.leF q z
    · exact .inr (a.tr q z)
  inn := fun i ds z => by
    obtain ⟨⟨d1, z1⟩, e1⟩ := b.inn i ds z
    obtain ⟨z2, e2⟩ := a.inn i d1 z1
    exact ⟨z2, e1.trans e2⟩
/-- more is tracked, nothing else -/
theorem none_of_more (k : ∀ q o, H q = some o → H1 q = some o) (q : Addr) (h : H1 q = none) : H q = none := by
  cases e : H q with
  | none => rfl
  | some o => rw [k q o e] at h; cases h
theorem StepS.more (k : ∀ q o, H q = some o → H1 q = some o) : StepS σ H η σ H1 η := ⟨none_of_more k, fun q o h _ => k q o h, fun _ h => .inl h, fun _ h => .inl h, fun i ds h => ⟨⟨ds, h⟩, rfl⟩⟩
theorem Rp.avd (r : Rp K mg σ H η T) : ∀ q, Avd σ η T q → ∃ xs, H q = some (.lst xs) := fun q z => by
  rcases z with z | ⟨i, b, ds, z1, z2⟩
  · exact r.tl q z
  · obtain ⟨a, vs, e1, e2, _⟩ := r.own i b ds z1
    rw [z2] at e1; cases e1
    exact ⟨vs, e2⟩
theorem Rp.kp (r : Rp K mg σ H η T) (s : StepS σ H η σ1 H1 η1) : Kp (Avd σ η T) (Avd σ1 η1 T) H H1 where
  keep := fun q o h n => s.keep q o h fun z => n (.inr z)
  lsts := r.avd
  less := fun q z => by
    rcases z with z | z
    · exact .inl (.inl z)
    · rcases s.le q z with z | z
      · exact .inl (.inr z)
      · exact .inr z
theorem Rp.old (r : Rp K mg σ H η T) (s : StepS σ H η σ1 H1 η1) {v : V} {d : PyData} (h : Dq K H (Avd σ η T) v d) : Dq K H1 (Avd σ1 η1 T) v d := Dq.keep (r.kp s) d v h
theorem Rp.olds (r : Rp K mg σ H η T) (s : StepS σ H η σ1 H1 η1) {vs : List V} {ds : List PyData} (h : DqAll K H (Avd σ η T) vs ds) : DqAll K H1 (Avd σ1 η1 T) vs ds := DqAll.keep (r.kp s) ds vs h
theorem ExAt.kp {O O' : Addr → Prop} {a : Addr} {nm : Str} {d : PyData} (k : Kp O O' H H1) (h : ExAt K mg H O a nm d) : ExAt K mg H1 O' a nm d := by
  obtain ⟨C, dd, v, e, ⟨φ, p, ea⟩, ed, q⟩ := h
  refine ⟨C, dd, v, e, ⟨φ, p, k.keep _ _ ea fun z => ?_⟩, k.keep _ _ ed fun z => ?_, Dq.keep k d v q⟩
  · obtain ⟨xs, w⟩ := k.lsts _ z
    rw [ea] at w; cases w
  · obtain ⟨xs, w⟩ := k.lsts _ z
    rw [ed] at w; cases w
/-- the heap grows, the slots stay -/
theorem Rp.more (r : Rp K mg σ H η T) (k : ∀ q o, H q = some o → H1 q = some o) : Rp K mg σ H1 η T := by
  have kp : Kp (Avd σ η T) (Avd σ η T) H H1 := r.kp (StepS.more k)
  refine ⟨fun i d h => ?_, fun i b ds h => ?_, fun i nm d h => ?_, r.inj, fun a h => ?_, ?_⟩
  · obtain ⟨v, e, q⟩ := r.val i d h
    exact ⟨v, e, Dq.keep kp d v q⟩
  · obtain ⟨a, vs, e, e2, q, n⟩ := r.own i b ds h
    exact ⟨a, vs, e, k _ _ e2, DqAll.keep kp ds vs q, n⟩
  · obtain ⟨a, e, q⟩ := r.exc i nm d h
    exact ⟨a, e, q.kp kp⟩
  · obtain ⟨xs, e⟩ := r.tl a h
    exact ⟨xs, k _ _ e⟩
  · exact r.len
theorem ExAt.less {O O' : Addr → Prop} {a : Addr} {nm : Str} {d : PyData} (k : ∀ q, O' q → O q) (h : ExAt K mg H O a nm d) : ExAt K mg H O' a nm d := by
  obtain ⟨C, dd, v, e, x, ed, q⟩ := h
  exact ⟨C, dd, v, e, x, ed, Dq.less k d v q⟩
/-- fewer lists told apart -/
theorem Rp.lessT (r : Rp K mg σ H η T) (k : ∀ q, T' q → T q) : Rp K mg σ H η T' := by
  have kA : ∀ q, Avd σ η T' q → Avd σ η T q := fun q z => z.imp (k q) id
  refine ⟨fun i d h => ?_, fun i b ds h => ?_, fun i nm d h => ?_, r.inj, fun a h => r.tl a (k a h), r.len⟩
  · obtain ⟨v, e, q⟩ := r.val i d h
    exact ⟨v, e, Dq.less kA d v q⟩
  · obtain ⟨a, vs, e, e2, q, n⟩ := r.own i b ds h
    exact ⟨a, vs, e, e2, DqAll.less kA ds vs q, fun z => n (k _ z)⟩
  · obtain ⟨a, e, q⟩ := r.exc i nm d h
    exact ⟨a, e, q.less kA⟩

/-! ### a slot is changed -/
/-- slots whose knowledge shrinks (to data known beside it, or to nothing), the values the same -/
theorem set_get {α : Type} {l : List α} {i j : Nat} {x y : α} (h : (l.set i x)[j]? = some y) : (i = j ∧ y = x) ∨ (i ≠ j ∧ l[j]? = some y) := by
  by_cases e : i = j
  · subst e
    by_cases hl : i < l.length
    · rw [List.getElem?_set_self hl] at h
      exact .inl ⟨rfl, (Option.some.inj h).symm⟩
    · rw [List.getElem?_eq_none (by simpa using hl)] at h; cases h
  · rw [List.getElem?_set_ne e] at h
    exact .inr ⟨e, h⟩
theorem own_set {i : Nat} {s : Option Slot} (hs : ∀ (b : Bool) (ds : List PyData), s ≠ some (.own b ds)) {q : Addr} (h : OwnAt σ (η.set i s) q) : OwnAt σ η q := by
  obtain ⟨j, b, ds, e1, e2⟩ := h
  rcases set_get e1 with ⟨_, e⟩ | ⟨_, e⟩
  · exact absurd e.symm (hs b ds)
  · exact ⟨j, b, ds, e, e2⟩
theorem free_set {i : Nat} {s : Option Slot} (hs : ∀ (b : Bool) (ds : List PyData), s ≠ some (.own b ds)) {q : Addr} (h : FreeAt σ (η.set i s) q) : FreeAt σ η q := by
  obtain ⟨j, ds, e1, e2⟩ := h
  rcases set_get e1 with ⟨_, e⟩ | ⟨_, e⟩
  · exact absurd e.symm (hs false ds)
  · exact ⟨j, ds, e, e2⟩
/-- own becomes data: the list is lent out for good -/
theorem Rp.freeze {i : Nat} {b : Bool} {ds : List PyData} {a : Addr} (r : Rp K mg σ H η T) (h : η[i]? = some (some (.own b ds))) (hv : σ[i]? = some (some (.ref a))) :
    Rp K mg σ H (η.set i (some (.val (.list ds)))) T ∧ Dq K H (Avd σ (η.set i (some (.val (.list ds)))) T) (.ref a) (.list ds) := by
  have kA : ∀ q, Avd σ (η.set i (some (.val (.list ds)))) T q → Avd σ η T q := fun q z => z.imp id (own_set (fun _ _ z => by cases z))
  obtain ⟨a', vs, e1, e2, q, n⟩ := r.own i b ds h
  rw [hv] at e1; cases e1
  have me : Dq K H (Avd σ (η.set i (some (.val (.list ds)))) T) (.ref a) (.list ds) := by
    refine .lst (fun z => ?_) (.inl e2) (DqAll.less kA ds vs q)
    rcases z with z | ⟨j, b', ds', z1, z2⟩
    · exact n z
    · rcases set_get z1 with ⟨_, e⟩ | ⟨ne, e⟩
      · cases e
      · exact ne (r.inj i j b b' ds ds' a h e hv z2)
  refine ⟨⟨fun j d h' => ?_, fun j b' ds' h' => ?_, fun j nm d h' => ?_, fun j k b1 b2 d1 d2 a' h1 h2 => ?_, r.tl, by simpa using r.len⟩, me⟩
  · rcases set_get h' with ⟨e, e'⟩ | ⟨_, e⟩
    · cases e'
      subst e
      exact ⟨.ref a, hv, me⟩
    · obtain ⟨v, e1, q1⟩ := r.val j d e
      exact ⟨v, e1, Dq.less kA d v q1⟩
  · rcases set_get h' with ⟨e, e'⟩ | ⟨_, e⟩
    · cases e'
    · obtain ⟨a2, vs2, e1, e2, q1, n1⟩ := r.own j b' ds' e
      exact ⟨a2, vs2, e1, e2, DqAll.less kA ds' vs2 q1, n1⟩
  · rcases set_get h' with ⟨e, e'⟩ | ⟨_, e⟩
    · cases e'
    · obtain ⟨a2, e1, q1⟩ := r.exc j nm d e
      exact ⟨a2, e1, q1.less kA⟩
  · rcases set_get h1 with ⟨_, e⟩ | ⟨_, e⟩
    · cases e
    · rcases set_get h2 with ⟨_, e'⟩ | ⟨_, e'⟩
      · cases e'
      · exact r.inj j k b1 b2 d1 d2 a' e e'
/-- a slot forgotten -/
theorem Rp.drop {i : Nat} (r : Rp K mg σ H η T) : Rp K mg σ H (η.set i none) T := by
  have kA : ∀ q, Avd σ (η.set i none) T q → Avd σ η T q := fun q z => z.imp id (own_set (fun _ _ z => by cases z))
  refine ⟨fun j d h' => ?_, fun j b' ds' h' => ?_, fun j nm d h' => ?_, fun j k b1 b2 d1 d2 a' h1 h2 => ?_, r.tl, by simpa using r.len⟩
  · rcases set_get h' with ⟨e, e'⟩ | ⟨_, e⟩
    · cases e'
    · obtain ⟨v, e1, q1⟩ := r.val j d e
      exact ⟨v, e1, Dq.less kA d v q1⟩
  · rcases set_get h' with ⟨e, e'⟩ | ⟨_, e⟩
    · cases e'
    · obtain ⟨a2, vs2, e1, e2, q1, n1⟩ := r.own j b' ds' e
      exact ⟨a2, vs2, e1, e2, DqAll.less kA ds' vs2 q1, n1⟩
  · rcases set_get h' with ⟨e, e'⟩ | ⟨_, e⟩
    · cases e'
    · obtain ⟨a2, e1, q1⟩ := r.exc j nm d e
      exact ⟨a2, e1, q1.less kA⟩
  · rcases set_get h1 with ⟨_, e⟩ | ⟨_, e⟩
    · cases e
    · rcases set_get h2 with ⟨_, e'⟩ | ⟨_, e'⟩
      · cases e'
      · exact r.inj j k b1 b2 d1 d2 a' e e'
theorem StepS.set {i : Nat} {s : Option Slot} (hs : ∀ (b : Bool) (ds : List PyData), s ≠ some (.own b ds)) : StepS σ H η σ H (η.set i s) := by
  refine ⟨fun _ h => h, fun _ _ h _ => h, fun q z => .inl (own_set hs z), fun q z => .inl (free_set hs z), fun j ds z => ?_⟩
  rcases set_get z with ⟨_, e⟩ | ⟨_, e⟩
  · exact absurd e.symm (hs true ds)
  · exact ⟨⟨ds, e⟩, rfl⟩
/-- a name is stored: data -/
theorem Rp.store {i : Nat} {v : V} {d : PyData} (r : Rp K mg σ H η T) (hq : Dq K H (Avd σ η T) v d) : Rp K mg (σ.set i (some v)) H (η.set i (some (.val d))) T ∧ ((∀ ds : List PyData, η[i]? ≠ some (some (.own true ds))) → StepS σ H η (σ.set i (some v)) H (η.set i (some (.val d)))) := by
  have own : ∀ q, OwnAt (σ.set i (some v)) (η.set i (some (.val d))) q → OwnAt σ η q := fun q ⟨j, b, ds, e1, e2⟩ => by
    rcases set_get e1 with ⟨_, e⟩ | ⟨ne, e⟩
    · cases e
    · rcases set_get e2 with ⟨e', _⟩ | ⟨_, e'⟩
      · exact absurd e' ne
      · exact ⟨j, b, ds, e, e'⟩
  have free : ∀ q, FreeAt (σ.set i (some v)) (η.set i (some (.val d))) q → FreeAt σ η q := fun q ⟨j, ds, e1, e2⟩ => by
    rcases set_get e1 with ⟨_, e⟩ | ⟨ne, e⟩
    · cases e
    · rcases set_get e2 with ⟨e', _⟩ | ⟨_, e'⟩
      · exact absurd e' ne
      · exact ⟨j, ds, e, e'⟩
  have kA : ∀ q, Avd (σ.set i (some v)) (η.set i (some (.val d))) T q → Avd σ η T q := fun q z => z.imp id (own q)
  refine ⟨⟨fun j d' h' => ?_, fun j b' ds' h' => ?_, fun j nm d' h' => ?_, fun j k b1 b2 d1 d2 a' h1 h2 h3 h4 => ?_, r.tl, by simpa using r.len⟩, fun ni => ⟨fun _ h => h, fun _ _ h _ => h, fun q z => .inl (own q z), fun q z => .inl (free q z), fun j ds z => ?_⟩⟩
  · rcases set_get h' with ⟨e, e'⟩ | ⟨ne, e⟩
    · cases e'
      subst e
      have hl : i < σ.length := by
        have z := (List.getElem?_eq_some_iff.mp h').1
        have := r.len
        simp at z
        omega
      exact ⟨v, List.getElem?_set_self hl, Dq.less kA d v hq⟩
    · obtain ⟨v', e1, q1⟩ := r.val j d' e
      exact ⟨v', by rw [List.getElem?_set_ne ne]; exact e1, Dq.less kA d' v' q1⟩
  · rcases set_get h' with ⟨e, e'⟩ | ⟨ne, e⟩
    · cases e'
    · obtain ⟨a2, vs2, e1, e2, q1, n1⟩ := r.own j b' ds' e
      exact ⟨a2, vs2, by rw [List.getElem?_set_ne ne]; exact e1, e2, DqAll.less kA ds' vs2 q1, n1⟩
  · rcases set_get h' with ⟨e, e'⟩ | ⟨ne, e⟩
    · cases e'
    · obtain ⟨a2, e1, q1⟩ := r.exc j nm d' e
      exact ⟨a2, by rw [List.getElem?_set_ne ne]; exact e1, q1.less kA⟩
  · rcases set_get h1 with ⟨_, e⟩ | ⟨ne, e⟩
    · cases e
    · rcases set_get h2 with ⟨_, e'⟩ | ⟨ne', e'⟩
      · cases e'
      · rw [List.getElem?_set_ne ne] at h3
        rw [List.getElem?_set_ne ne'] at h4
        exact r.inj j k b1 b2 d1 d2 a' e e' h3 h4
  · rcases set_get z with ⟨_, e⟩ | ⟨ne, e⟩
    · cases e
    · exact ⟨⟨ds, e⟩, List.getElem?_set_ne ne⟩
/-- a name is stored: a list that nobody else holds -/
theorem Rp.storeL {i : Nat} {a : Addr} {vs : List V} {ds : List PyData} (r : Rp K mg σ H η (fun q => T q ∨ q = a)) (ea : H a = some (.lst vs)) (hq : DqAll K H (Avd σ η fun q => T q ∨ q = a) vs ds) (no : ¬ Avd σ η T a) :
    Rp K mg (σ.set i (some (.ref a))) H (η.set i (some (.own false ds))) T ∧
    (∀ q, OwnAt (σ.set i (some (.ref a))) (η.set i (some (.own false ds))) q → OwnAt σ η q ∨ q = a) ∧ (∀ q, FreeAt (σ.set i (some (.ref a))) (η.set i (some (.own false ds))) q → FreeAt σ η q ∨ q = a) ∧
    ((∀ ds : List PyData, η[i]? ≠ some (some (.own true ds))) → ∀ (j : Nat) (ds' : List PyData), (η.set i (some (.own false ds)))[j]? = some (some (.own true ds')) → (∃ ds : List PyData, η[j]? = some (some (.own true ds))) ∧ (σ.set i (some (.ref a)))[j]? = σ[j]?) := by
  have own : ∀ q, OwnAt (σ.set i (some (.ref a))) (η.set i (some (.own false ds))) q → OwnAt σ η q ∨ q = a := fun q ⟨j, b, ds, e1, e2⟩ => by
    rcases set_get e1 with ⟨ij, e⟩ | ⟨ne, e⟩
    · subst ij
      rcases set_get e2 with ⟨_, e'⟩ | ⟨n, _⟩
      · cases e'; exact .inr rfl
      · exact absurd rfl n
    · rcases set_get e2 with ⟨e', _⟩ | ⟨_, e'⟩
      · exact absurd e' ne
      · exact .inl ⟨j, b, ds, e, e'⟩
  have free : ∀ q, FreeAt (σ.set i (some (.ref a))) (η.set i (some (.own false ds))) q → FreeAt σ η q ∨ q = a := fun q ⟨j, ds, e1, e2⟩ => by
    rcases set_get e1 with ⟨ij, e⟩ | ⟨ne, e⟩
    · subst ij
      rcases set_get e2 with ⟨_, e'⟩ | ⟨n, _⟩
      · cases e'; exact .inr rfl
      · exact absurd rfl n
    · rcases set_get e2 with ⟨e', _⟩ | ⟨_, e'⟩
      · exact absurd e' ne
      · exact .inl ⟨j, ds, e, e'⟩
  have kA : ∀ q, Avd (σ.set i (some (.ref a))) (η.set i (some (.own false ds))) T q → Avd σ η (fun q => T q ∨ q = a) q := fun q z => by
    rcases z with z | z
    · exact .inl (.inl z)
    · rcases own q z with z | z
      · exact .inr z
      · exact .inl (.inr z)
  refine ⟨⟨fun j d' h' => ?_, fun j b' ds' h' => ?_, fun j nm d' h' => ?_, fun j k b1 b2 d1 d2 a' h1 h2 h3 h4 => ?_, fun q z => r.tl q (.inl z), by simpa using r.len⟩, own, free, fun ni j ds' z => ?_⟩
  · rcases set_get h' with ⟨e, e'⟩ | ⟨ne, e⟩
    · cases e'
    · obtain ⟨v', e1, q1⟩ := r.val j d' e
      exact ⟨v', by rw [List.getElem?_set_ne ne]; exact e1, Dq.less kA d' v' q1⟩
  · rcases set_get h' with ⟨e, e'⟩ | ⟨ne, e⟩
    · cases e'
      subst e
      have hl : i < σ.length := by
        have z := (List.getElem?_eq_some_iff.mp h').1
        have := r.len
        simp at z
        omega
      exact ⟨a, vs, List.getElem?_set_self hl, ea, DqAll.less kA _ _ hq, fun z => no (.inl z)⟩
    · obtain ⟨a2, vs2, e1, e2, q1, n1⟩ := r.own j b' ds' e
      exact ⟨a2, vs2, by rw [List.getElem?_set_ne ne]; exact e1, e2, DqAll.less kA ds' vs2 q1, fun z => n1 (.inl z)⟩
  · rcases set_get h' with ⟨e, e'⟩ | ⟨ne, e⟩
    · cases e'
    · obtain ⟨a2, e1, q1⟩ := r.exc j nm d' e
      exact ⟨a2, by rw [List.getElem?_set_ne ne]; exact e1, q1.less kA⟩
  · have na : ∀ {j : Nat} {b : Bool} {d : List PyData}, η[j]? = some (some (.own b d)) → σ[j]? ≠ some (some (.ref a)) := fun {j b d} h e => no (.inr ⟨j, b, d, h, e⟩)
    rcases set_get h1 with ⟨ij, e⟩ | ⟨ne, e⟩
    · subst ij
      rcases set_get h3 with ⟨_, e3⟩ | ⟨n, _⟩
      · cases e3
        rcases set_get h2 with ⟨ik, _⟩ | ⟨nk, e2⟩
        · exact ik
        · rw [List.getElem?_set_ne nk] at h4
          exact absurd h4 (na e2)
      · exact absurd rfl n
    · rw [List.getElem?_set_ne ne] at h3
      rcases set_get h2 with ⟨ik, _⟩ | ⟨nk, e2⟩
      · subst ik
        rcases set_get h4 with ⟨_, e4⟩ | ⟨n, _⟩
        · cases e4
          exact absurd h3 (na e)
        · exact absurd rfl n
      · rw [List.getElem?_set_ne nk] at h4
        exact r.inj j k b1 b2 d1 d2 a' e e2 h3 h4
  · rcases set_get z with ⟨_, e⟩ | ⟨ne, e⟩
    · cases e
    · exact ⟨⟨ds', e⟩, List.getElem?_set_ne ne⟩
end
end L2.DL
end
section
set_option Elab.async false
set_option linter.all false
set_option maxRecDepth 100000
namespace L2.DL
open PySem PySem.Spec PyProof.Rows
set_option autoImplicit false

/-! ### programs over slots -/
inductive R (α : Type) where
  | ok (a : α)
  | exc (nm : Str) (d : PyData)
abbrev MX (α : Type) := EnvD → Option (R α × EnvD)
def mPure {α : Type} (a : α) : MX α := fun η => some (.ok a, η)
def mBind {α β : Type} (m : MX α) (k : α → MX β) : MX β := fun η =>
  match m η with
  | some (.ok x, η1) => k x η1
  | some (.exc n d, η1) => some (.exc n d, η1)
  | none => none
def mLift {α : Type} (o : Option α) : MX α := fun η => match o with
  | some a => some (.ok a, η)
  | none => none

def ExcOut (K : Fg) (mg : Str → Option Value) (H : Hp) (O : Addr → Prop) (cls : Value) (dd : Option Addr) (nm : Str) (d : PyData) : Prop :=
  ∃ (C a : Addr) (v : V), mg nm = some (.ref C) ∧ cls = .ref C ∧ dd = some a ∧ H a = some (.xd [(("value" : Str), v)]) ∧ Dq K H O v d
/-- data, or an own list whose items are kept apart: for those who read it at once -/
def Bq (K : Fg) (H : Hp) (O : Addr → Prop) (v : V) (d : PyData) : Prop := Dq K H O v d ∨ ∃ a vs ds, v = .ref a ∧ d = .list ds ∧ H a = some (.lst vs) ∧ DqAll K H O vs ds
/-- what is wanted behind a part: β is the wish's type, α the result's -/
abbrev Ps (α β : Type) := St → Hp → EnvD → (Addr → Prop) → β → α → EnvD → Prop
section
variable (K : Fg) (mg : Str → Option Value)
def PD : Ps PyData VK := fun σ H η T Q x η' => ∀ v H', StepS σ H η σ H' η' → Rp K mg σ H' η' T → Dq K H' (Avd σ η' T) v x → Q v H'
/-- the value may lie in an own list of the frame's: for those who read it at once -/
def PB : Ps PyData VK := fun σ H η T Q x η' => ∀ v H', StepS σ H η σ H' η' → Rp K mg σ H' η' T → Bq K H' (Avd σ η' T) v x → Q v H'
def PL : Ps (List PyData) VK := fun σ H η T Q xs η' =>
  ∀ a vs H', StepS σ H η σ H' η' → H a = none → H' a = some (.lst vs) → Rp K mg σ H' η' (fun q => T q ∨ q = a) → DqAll K H' (Avd σ η' fun q => T q ∨ q = a) vs xs → ¬ Avd σ η' T a → Q (.ref a) H'
def PTs : Ps Bool (Bool → Hp → Prop) := fun σ H η T Q b η' => ∀ H', StepS σ H η σ H' η' → Rp K mg σ H' η' T → Q b H'
def PAs : Ps (List PyData) (List V → Hp → Prop) := fun σ H η T Q xs η' => ∀ vs H', StepS σ H η σ H' η' → Rp K mg σ H' η' T → DqAll K H' (Avd σ η' T) vs xs → Q vs H'
def PX (W : WX) : St → Hp → EnvD → (Addr → Prop) → Str → PyData → EnvD → Prop := fun σ H η T nm x η' =>
  ∀ cls dd σ' H', StepS σ H η σ' H' η' → Rp K mg σ' H' η' T → ExcOut K mg H' (Avd σ' η' T) cls dd nm x → W cls dd σ' H'
def Nx {α β : Type} (W : WX) (P : Ps α β) (σ : St) (H : Hp) (η : EnvD) (T : Addr → Prop) (Q : β) (out : Option (R α × EnvD)) : Prop :=
  ∃ o η', out = some (o, η') ∧ match o with
    | .ok y => P σ H η T Q y η'
    | .exc nm y => PX K mg W σ H η T nm y η'
def tG {α β : Type} (W : WX) (P : Ps α β) (m : MX α) : St → Hp → β → Prop := fun σ H Q => ∃ η T, Rp K mg σ H η T ∧ Nx K mg W P σ H η T Q (m η)
abbrev tD (W : WX) (m : MX PyData) : TE := tG K mg W (PD K mg) m
abbrev tBo (W : WX) (m : MX PyData) : TE := tG K mg W (PB K mg) m
abbrev tF (W : WX) (m : MX (List PyData)) : TE := tG K mg W (PL K mg) m
abbrev tTs (W : WX) (m : MX Bool) : TT := tG K mg W (PTs K mg) m
abbrev tAr (W : WX) (m : MX (List PyData)) : TA := tG K mg W (PAs K mg) m
end

/-! ### the judgements -/
def DE (X : Cx) (W : WX) (e : Expr) (m : MX PyData) : Prop := PE X e (tD X.K X.mg W m)
def DB (X : Cx) (W : WX) (e : Expr) (m : MX PyData) : Prop := PE X e (tBo X.K X.mg W m)
def DF (X : Cx) (W : WX) (e : Expr) (m : MX (List PyData)) : Prop := PE X e (tF X.K X.mg W m)
def DT (X : Cx) (W : WX) (e : Expr) (m : MX Bool) : Prop := PT X e (tTs X.K X.mg W m)
def DW (X : Cx) (W : WX) (e : Expr) (m : MX Bool) : Prop := PW X e (tTs X.K X.mg W m)
def DA (X : Cx) (W : WX) (es : List Expr) (m : MX (List PyData)) : Prop := PA X es (tAr X.K X.mg W m)

theorem PE.imp {X : Cx} {e : Expr} {t t' : TE} (h : PE X e t) (i : ∀ σ H Q, t' σ H Q → t σ H Q) : PE X e t' := ⟨fun pins s σ H Q I hw => h.run pins s σ H Q I (i σ H Q hw)⟩
theorem PT.imp {X : Cx} {e : Expr} {t t' : TT} (h : PT X e t) (i : ∀ σ H Q, t' σ H Q → t σ H Q) : PT X e t' := ⟨fun pins s σ H Q I hw => h.run pins s σ H Q I (i σ H Q hw)⟩
theorem PW.imp {X : Cx} {e : Expr} {t t' : TT} (h : PW X e t) (i : ∀ σ H Q, t' σ H Q → t σ H Q) : PW X e t' := ⟨fun p pins s σ H Q I hw => h.run p pins s σ H Q I (i σ H Q hw)⟩
theorem PA.imp {X : Cx} {e : List Expr} {t t' : TA} (h : PA X e t) (i : ∀ σ H Q, t' σ H Q → t σ H Q) : PA X e t' := ⟨fun p pins s σ H Q I hw => h.run p pins s σ H Q I (i σ H Q hw)⟩
theorem PS.imp {X : Cx} {e : Stmt} {t t' : TS} (h : PS X e t) (i : ∀ D σ H, t' D σ H → t D σ H) : PS X e t' := ⟨fun pins s σ H D I hw => h.run pins s σ H D I (i D σ H hw)⟩
theorem PSs.imp {X : Cx} {e : List Stmt} {t t' : TS} (h : PSs X e t) (i : ∀ D σ H, t' D σ H → t D σ H) : PSs X e t' := ⟨fun pins s σ H D I hw => h.run pins s σ H D I (i D σ H hw)⟩

section
variable {K : Fg} {mg : Str → Option Value} {W : WX} {σ : St} {H H1 H2 : Hp} {η η1 η2 : EnvD} {T : Addr → Prop} {α β γ δ : Type}
/-- a wish that may be asked later -/
def Later (P : Ps α β) : Prop := ∀ σ H η T Q x η' H1 η1, StepS σ H η σ H1 η1 → P σ H η T Q x η' → P σ H1 η1 T Q x η'
theorem PD.later : Later (PD K mg) := fun σ H η T Q x η' H1 η1 s p v H' s' r q => p v H' (s.trans s') r q
theorem PB.later : Later (PB K mg) := fun σ H η T Q x η' H1 η1 s p v H' s' r q => p v H' (s.trans s') r q
theorem PTs.later : Later (PTs K mg) := fun σ H η T Q x η' H1 η1 s p H' s' r => p H' (s.trans s') r
theorem PAs.later : Later (PAs K mg) := fun σ H η T Q x η' H1 η1 s p v H' s' r q => p v H' (s.trans s') r q
theorem PL.later : Later (PL K mg) := fun σ H η T Q x η' H1 η1 s p a vs H' s' n => p a vs H' (s.trans s') (s.tr a n)
theorem PX.later {nm : Str} {x : PyData} (s : StepS σ H η σ H1 η1) (p : PX K mg W σ H η T nm x η2) : PX K mg W σ H1 η1 T nm x η2 :=
  fun cls dd σ' H' s' r q => p cls dd σ' H' (s.trans s') r q
theorem Nx.later {P : Ps α β} (hP : Later P) {Q : β} {out : Option (R α × EnvD)} (s : StepS σ H η σ H1 η1) (h : Nx K mg W P σ H η T Q out) : Nx K mg W P σ H1 η1 T Q out := by
  obtain ⟨o, η', e, p⟩ := h
  refine ⟨o, η', e, ?_⟩
  cases o with
  | ok y => exact hP _ _ _ _ _ _ _ _ _ s p
  | exc nm y => exact PX.later s p
theorem Nx.bind {P : Ps α β} {P' : Ps γ δ} {m : MX α} {k : α → MX γ} {Q : δ} {Q1 : β} (h : Nx K mg W P' σ H η T Q (mBind m k η))
    (h1 : ∀ x η1, m η = some (.ok x, η1) → Nx K mg W P' σ H η T Q (k x η1) → P σ H η T Q1 x η1) : Nx K mg W P σ H η T Q1 (m η) := by
  obtain ⟨o, η', e, p⟩ := h
  unfold mBind at e
  split at e
  · rename_i x η1 e1
    exact ⟨.ok x, η1, e1, h1 x η1 e1 ⟨o, η', e, p⟩⟩
  · rename_i n d η1 e1
    cases e
    exact ⟨.exc n d, η', e1, p⟩
  · cases e
theorem Nx.lift {P : Ps α β} {Q : β} {o : Option α} (h : Nx K mg W P σ H η T Q (mLift o η1)) : ∃ x, o = some x ∧ P σ H η T Q x η1 := by
  obtain ⟨o', η', e, p⟩ := h
  unfold mLift at e
  split at e
  · cases e
    exact ⟨_, rfl, p⟩
  · cases e
theorem Nx.pure {P : Ps α β} {Q : β} {x : α} (h : Nx K mg W P σ H η T Q (mPure x η1)) : P σ H η T Q x η1 := by
  obtain ⟨o', η', e, p⟩ := h
  unfold mPure at e
  cases e
  exact p
theorem Nx.imp {P : Ps α β} {P' : Ps α δ} {Q : β} {Q' : δ} {out : Option (R α × EnvD)} (h : Nx K mg W P σ H η T Q out) (i : ∀ x η', out = some (.ok x, η') → P σ H η T Q x η' → P' σ H η T Q' x η') : Nx K mg W P' σ H η T Q' out := by
  obtain ⟨o, η', e, p⟩ := h
  refine ⟨o, η', e, ?_⟩
  cases o with
  | ok y => exact i y η' e p
  | exc nm y => exact p
end

/-! ### data by values -/
def Lists (H : Hp) (O : Addr → Prop) : Prop := ∀ q, O q → ∃ xs, H q = some (.lst xs)
def More (H H' : Hp) : Prop := ∀ q o, H q = some o → H' q = some o
theorem More.refl {H : Hp} : More H H := fun _ _ h => h
theorem More.upd {H : Hp} {a : Addr} {o : HO} (h : H a = none) : More H (upd H a o) := fun q u e => by
  rw [upd_ne (ne_of_none e h)]; exact e
theorem More.kp {H H' : Hp} {O : Addr → Prop} (k : More H H') (l : Lists H O) : Kp O O H H' := ⟨fun q o h _ => k q o h, l, fun q h => .inl h⟩
section
variable {K : Fg} {H H' : Hp} {O : Addr → Prop}
theorem Dq.more {v : V} {d : PyData} (h : Dq K H O v d) (l : Lists H O) (k : More H H') : Dq K H' O v d := Dq.keep (k.kp l) d v h
theorem DqAll.more {v : List V} {d : List PyData} (h : DqAll K H O v d) (l : Lists H O) (k : More H H') : DqAll K H' O v d := DqAll.keep (k.kp l) d v h
theorem Lists.no {a : Addr} (l : Lists H O) (h : H a = none) : ¬ O a := fun z => by
  obtain ⟨xs, e⟩ := l a z
  rw [h] at e; cases e
/-- a new list beside what is to be kept away from -/
theorem DqAll.beside {a : Addr} {v : List V} {d : List PyData} (h : DqAll K H O v d) (l : Lists H O) (n : H a = none) (k : More H H') : DqAll K H' (fun q => O q ∨ q = a) v d := by
  refine DqAll.keep ⟨fun q o h _ => k q o h, l, fun q z => ?_⟩ d v h
  rcases z with z | z
  · exact .inl z
  · subst z; exact .inr n
end
/-- a two-place rule by values gives data -/
def OpG (K : Fg) (r : R2) (g : PyData → PyData → Option PyData) : Prop :=
  ∀ x y d e z H O Q, Lists H O → Dq K H O x d → Dq K H O y e → g d e = some z → (∀ v H', More H H' → Dq K H' O v z → Q v H') → r x y H Q
/-- .. a new list -/
def OpL (K : Fg) (r : R2) (g : PyData → PyData → Option (List PyData)) : Prop :=
  ∀ x y d e zs H O Q, Lists H O → Dq K H O x d → Dq K H O y e → g d e = some zs → (∀ a vs, H a = none → DqAll K H O vs zs → Q (.ref a) (upd H a (.lst vs))) → r x y H Q
/-- one place, or a call: the arguments' data -/
def CaG (K : Fg) (r : List V → Hp → VK → Prop) (g : List PyData → Option PyData) : Prop :=
  ∀ xs ds z H O Q, Lists H O → DqAll K H O xs ds → g ds = some z → (∀ v H', More H H' → Dq K H' O v z → Q v H') → r xs H Q
def CaL (K : Fg) (r : List V → Hp → VK → Prop) (g : List PyData → Option (List PyData)) : Prop :=
  ∀ xs ds zs H O Q, Lists H O → DqAll K H O xs ds → g ds = some zs → (∀ a vs, H a = none → DqAll K H O vs zs → Q (.ref a) (upd H a (.lst vs))) → r xs H Q

def mOp (g : PyData → PyData → Option PyData) (ma mb : MX PyData) : MX PyData := mBind ma fun x => mBind mb fun y => mLift (g x y)
def mOpL (g : PyData → PyData → Option (List PyData)) (ma mb : MX PyData) : MX (List PyData) := mBind ma fun x => mBind mb fun y => mLift (g x y)
def mFz (m : MX (List PyData)) : MX PyData := mBind m fun xs => mPure (.list xs)

section
variable {K : Fg} {mg : Str → Option Value} {σ : St} {H H2 : Hp} {η η' η2 : EnvD} {T : Addr → Prop}
theorem Rp.lists (r : Rp K mg σ H η T) : Lists H (Avd σ η T) := r.avd
theorem avdT {a : Addr} {q : Addr} (z : Avd σ η (fun q => T q ∨ q = a) q) : Avd σ η T q ∨ q = a := by
  rcases z with (z | z) | z
  · exact .inl (.inl z)
  · exact .inr z
  · exact .inl (.inr z)
/-- a new list is told apart -/
theorem Rp.new' {H' : Hp} {a : Addr} {vs : List V} (r : Rp K mg σ H η T) (n : H a = none) (k : More H H') (ea : H' a = some (.lst vs)) : Rp K mg σ H' η (fun q => T q ∨ q = a) := by
  have kp : Kp (Avd σ η T) (Avd σ η fun q => T q ∨ q = a) H H' := ⟨fun q o h _ => k q o h, r.avd, fun q z => by
    rcases avdT z with z | z
    · exact .inl z
    · subst z; exact .inr n⟩
  refine ⟨fun i d h => ?_, fun i b ds h => ?_, fun i nm d h => ?_, r.inj, fun q h => ?_, r.len⟩
  · obtain ⟨v, e, q⟩ := r.val i d h
    exact ⟨v, e, Dq.keep kp d v q⟩
  · obtain ⟨a', vs, e, e2, q, nt⟩ := r.own i b ds h
    refine ⟨a', vs, e, k _ _ e2, DqAll.keep kp ds vs q, fun z => ?_⟩
    rcases z with z | z
    · exact nt z
    · rw [z, n] at e2; cases e2
  · obtain ⟨a', e, q⟩ := r.exc i nm d h
    exact ⟨a', e, q.kp kp⟩
  · rcases h with h | h
    · obtain ⟨xs, e⟩ := r.tl q h
      exact ⟨xs, k _ _ e⟩
    · subst h
      exact ⟨vs, ea⟩
theorem Rp.new {a : Addr} {vs : List V} (r : Rp K mg σ H η T) (n : H a = none) : Rp K mg σ (upd H a (.lst vs)) η (fun q => T q ∨ q = a) := r.new' n (More.upd n) upd_same
theorem PL.meet {Q : VK} {xs : List PyData} {a : Addr} {vs : List V} (p : PL K mg σ H η T Q xs η2) (s : StepS σ H η σ H2 η2) (r : Rp K mg σ H2 η2 T) (n : H2 a = none) (q : DqAll K H2 (Avd σ η2 T) vs xs) : Q (.ref a) (upd H2 a (.lst vs)) := by
  have k : More H2 (upd H2 a (.lst vs)) := More.upd n
  refine p a vs _ (s.trans (StepS.more k)) (s.tr a n) upd_same (r.new n) ?_ (r.lists.no n)
  exact DqAll.less (fun q z => avdT z) xs vs (q.beside r.lists n k)
theorem PD.meet {Q : VK} {x : PyData} (p : PD K mg σ H η T Q x η2) (s : StepS σ H η σ H2 η2) (r : Rp K mg σ H2 η2 T) : ∀ v H', More H2 H' → Dq K H' (Avd σ η2 T) v x → Q v H' :=
  fun v H' k q => p v H' (s.trans (StepS.more k)) (r.more k) q
end

section
variable {X : Cx} {W : WX} {a b : Expr} {ma mb : MX PyData} {ml : MX (List PyData)} {pos : Pos} {e : Expr} {es : List Expr}
theorem de_op_gen {r : R2} {g : PyData → PyData → Option PyData} (hg : OpG X.K r g) (h : PE X e (tOp r (tD X.K X.mg W ma) (tD X.K X.mg W mb))) : DE X W e (mOp g ma mb) := by
  refine PE.imp h fun σ H Q ⟨η, T, r0, n0⟩ => ⟨η, T, r0, n0.bind fun x η1 e1 n1 v H1 s1 r1 q1 => ?_⟩
  refine ⟨η1, T, r1, (n1.later PD.later s1).bind fun y η2 e2 n2 w H2 s2 r2 q2 => ?_⟩
  obtain ⟨z, ez, p⟩ := n2.lift
  exact hg v w x y z H2 (Avd σ η2 T) Q r2.lists (r1.old s2 q1) q2 ez (p.meet s2 r2)
theorem df_op_gen {r : R2} {g : PyData → PyData → Option (List PyData)} (hg : OpL X.K r g) (h : PE X e (tOp r (tD X.K X.mg W ma) (tD X.K X.mg W mb))) : DF X W e (mOpL g ma mb) := by
  refine PE.imp h fun σ H Q ⟨η, T, r0, n0⟩ => ⟨η, T, r0, n0.bind fun x η1 e1 n1 v H1 s1 r1 q1 => ?_⟩
  refine ⟨η1, T, r1, (n1.later PL.later s1).bind fun y η2 e2 n2 w H2 s2 r2 q2 => ?_⟩
  obtain ⟨z, ez, p⟩ := n2.lift
  exact hg v w x y z H2 (Avd σ η2 T) Q r2.lists (r1.old s2 q1) q2 ez fun a vs na q => p.meet s2 r2 na q
theorem de_op {op : Operator} {r : R2} {g : PyData → PyData → Option PyData} (ho : OpR X (binaryOp op) r) (hg : OpG X.K r g) (ha : DE X W a ma) (hb : DE X W b mb) : DE X W (.BinOp a op b pos) (mOp g ma mb) := de_op_gen hg (pe_op ho ha hb)
theorem df_op {op : Operator} {r : R2} {g : PyData → PyData → Option (List PyData)} (ho : OpR X (binaryOp op) r) (hg : OpL X.K r g) (ha : DE X W a ma) (hb : DE X W b mb) : DF X W (.BinOp a op b pos) (mOpL g ma mb) := df_op_gen hg (pe_op ho ha hb)
theorem de_cmp {op : CmpOp} {r : R2} {g : PyData → PyData → Option PyData} (ho : OpR X (compareOp op) r) (hg : OpG X.K r g) (ha : DE X W a ma) (hb : DE X W b mb) (hm : behindInMarks op b = false) : DE X W (.Compare a [op] [b] pos) (mOp g ma mb) := de_op_gen hg (pe_cmpR ho ha hb hm)
theorem de_ix {r : R2} {g : PyData → PyData → Option PyData} (hr : IxR X r) (hg : OpG X.K r g) (ha : DE X W a ma) (hb : DE X W b mb) (hs : PlainIx b) : DE X W (.Subscript a b pos) (mOp g ma mb) := de_op_gen hg (pe_ix hr ha hb hs)

/-! ### coercions -/
theorem DE.toB {m : MX PyData} (h : DE X W e m) : DB X W e m := PE.imp h fun σ H Q ⟨η, T, r0, n0⟩ => ⟨η, T, r0, n0.imp fun x η' _ p v H' s r q => p v H' s r (.inl q)⟩
theorem DF.toE (h : DF X W e ml) : DE X W e (mFz ml) := PE.imp h fun σ H Q ⟨η, T, r0, n0⟩ => ⟨η, T, r0, n0.bind fun xs η1 _ n1 a vs H1 s1 na ea r1 q1 no => by
  have p := n1.pure
  have k : ∀ q, Avd σ η1 T q → Avd σ η1 (fun q => T q ∨ q = a) q := fun q z => z.imp .inl id
  exact p (.ref a) H1 s1 (r1.lessT fun q z => .inl z) (.lst no (.inl ea) (DqAll.less k xs vs q1))⟩

/-! ### constants, names -/
theorem de_con {v : V} {d : PyData} (h : PE X e (tC v)) (c : ∀ H O, Dq X.K H O v d) : DE X W e (mPure d) := PE.imp h fun σ H Q ⟨η, T, r0, n0⟩ =>
  n0.pure v H StepS.refl r0 (c H _)
theorem de_int {i j pos} : DE X W (.Constant (.int i) j pos) (mPure (.int i)) := de_con pe_int fun _ _ => .int i
theorem de_bl {b j pos} : DE X W (.Constant (.bool b) j pos) (mPure (.bool b)) := de_con pe_bl fun _ _ => .bl b
theorem de_non {j pos} : DE X W (.Constant .none j pos) (mPure .none) := de_con pe_non fun _ _ => .non
theorem de_str {x j pos} : DE X W (.Constant (.str x) j pos) (mPure (.str x)) := de_con pe_str fun _ _ => .str x
/-- a module's constant -/
theorem de_glob {x : Str} {u : Value} {v : V} {d : PyData} {pos : Pos} (hm : X.mg x = some u) (r : RelV v u) (c : ∀ H O, Dq X.K H O v d) (hg : Gl X x := by rfl) (hd : (x == ("__debug__" : Str)) = false := by decide) : DE X W (.Name x pos) (mPure d) :=
  de_con (pe_glob hg hm r hd) c
/-- a name: its data; an own list is lent out for good -/
def mVar (i : Nat) : MX PyData := fun η => match η[i]? with
  | some (some (.val d)) => some (.ok d, η)
  | some (some (.own false ds)) => some (.ok (.list ds), η.set i (some (.val (.list ds))))
  | _ => none
/-- .. read at once -/
def mBor (i : Nat) : MX PyData := fun η => match η[i]? with
  | some (some (.val d)) => some (.ok d, η)
  | some (some (.own _ ds)) => some (.ok (.list ds), η)
  | _ => none
theorem de_var {i : Nat} {x : Str} {pos : Pos} (h : PE X (.Name x pos) (tVar i)) : DE X W (.Name x pos) (mVar i) := PE.imp h fun σ H Q ⟨η, T, r0, n0⟩ => by
  obtain ⟨o, η', e, p⟩ := n0
  unfold mVar at e
  split at e
  · rename_i d hd
    cases e
    obtain ⟨v, ev, q⟩ := r0.val i d hd
    exact ⟨v, ev, p v H StepS.refl r0 q⟩
  · rename_i ds hd
    cases e
    obtain ⟨a, vs, ea, _⟩ := r0.own i false ds hd
    obtain ⟨r1, q1⟩ := r0.freeze hd ea
    exact ⟨.ref a, ea, p (.ref a) H (StepS.set fun _ _ z => by cases z) r1 q1⟩
  · cases e
theorem db_var {i : Nat} {x : Str} {pos : Pos} (h : PE X (.Name x pos) (tVar i)) : DB X W (.Name x pos) (mBor i) := PE.imp h fun σ H Q ⟨η, T, r0, n0⟩ => by
  obtain ⟨o, η', e, p⟩ := n0
  unfold mBor at e
  split at e
  · rename_i d hd
    cases e
    obtain ⟨v, ev, q⟩ := r0.val i d hd
    exact ⟨v, ev, p v H StepS.refl r0 (.inl q)⟩
  · rename_i b ds hd
    cases e
    obtain ⟨a, vs, ea, e2, q, _⟩ := r0.own i b ds hd
    exact ⟨.ref a, ea, p (.ref a) H StepS.refl r0 (.inr ⟨a, vs, ds, rfl, rfl, e2, q⟩)⟩
  · cases e

/-! ### arguments, calls of built-ins -/
def mNil : MX (List PyData) := mPure []
def mCons (m : MX PyData) (ms : MX (List PyData)) : MX (List PyData) := mBind m fun x => mBind ms fun xs => mPure (x :: xs)
theorem da_nil : DA X W [] mNil := PA.imp pa_nil fun σ H Q ⟨η, T, r0, n0⟩ => n0.pure [] H StepS.refl r0 .nil
theorem da_cons {m : MX PyData} (ha : DE X W e m) (hr : DA X W es ml) (hs : starEach (e :: es) X.env = (false, eval e X.env) :: starEach es X.env := by rfl) : DA X W (e :: es) (mCons m ml) := by
  refine PA.imp (pa_cons ha hr hs) fun σ H Q ⟨η, T, r0, n0⟩ => ⟨η, T, r0, n0.bind fun x η1 e1 n1 v H1 s1 r1 q1 => ?_⟩
  refine ⟨η1, T, r1, (n1.later PAs.later s1).bind fun xs η2 e2 n2 vs H2 s2 r2 q2 => ?_⟩
  exact n2.pure (v :: vs) H2 s2 r2 (.cons (r1.old s2 q1) q2)
def mCa (g : List PyData → Option PyData) (ml : MX (List PyData)) : MX PyData := mBind ml fun xs => mLift (g xs)
def mCaL (g : List PyData → Option (List PyData)) (ml : MX (List PyData)) : MX (List PyData) := mBind ml fun xs => mLift (g xs)
theorem de_ca_gen {r : List V → Hp → VK → Prop} {g : List PyData → Option PyData} (hg : CaG X.K r g) (h : PE X e (fun σ H Q => tAr X.K X.mg W ml σ H fun vs H1 => r vs H1 Q)) : DE X W e (mCa g ml) := by
  refine PE.imp h fun σ H Q ⟨η, T, r0, n0⟩ => ⟨η, T, r0, n0.bind fun x η1 e1 n1 v H1 s1 r1 q1 => ?_⟩
  obtain ⟨z, ez, p⟩ := n1.lift
  exact hg v x z H1 (Avd σ η1 T) Q r1.lists q1 ez (p.meet s1 r1)
theorem df_ca_gen {r : List V → Hp → VK → Prop} {g : List PyData → Option (List PyData)} (hg : CaL X.K r g) (h : PE X e (fun σ H Q => tAr X.K X.mg W ml σ H fun vs H1 => r vs H1 Q)) : DF X W e (mCaL g ml) := by
  refine PE.imp h fun σ H Q ⟨η, T, r0, n0⟩ => ⟨η, T, r0, n0.bind fun x η1 e1 n1 v H1 s1 r1 q1 => ?_⟩
  obtain ⟨z, ez, p⟩ := n1.lift
  exact hg v x z H1 (Avd σ η1 T) Q r1.lists q1 ez fun a vs na q => p.meet s1 r1 na q
theorem de_tup {x1} (hz : True) (h : DA X W es ml) : DE X W (.Tuple es x1 pos) (mCa (fun xs => if xs.length ≤ sizeLine then some (.tuple xs) else none) ml) := by
  refine de_ca_gen (r := fun xs H Q => xs.length ≤ sizeLine ∧ ∀ p, H p = none → Q (.ref p) (upd H p (.tup xs))) (fun xs ds z H O Q l q e k => ?_) (pe_tup h)
  split at e
  · rename_i hl
    cases e
    refine ⟨by rw [q.length]; exact hl, fun p hp => k _ _ (More.upd hp) (.tup (.inl (.inl upd_same)) (q.more l (More.upd hp)))⟩
  · cases e
theorem df_lst (h : DA X W es ml) : DF X W (.List es pos) (mCaL (fun xs => if xs.length ≤ sizeLine then some xs else none) ml) := by
  refine df_ca_gen (r := fun xs H Q => xs.length ≤ sizeLine ∧ ∀ p, H p = none → Q (.ref p) (upd H p (.lst xs))) (fun xs ds z H O Q l q e k => ?_) (pe_lst h)
  split at e
  · rename_i hl
    cases e
    exact ⟨by rw [q.length]; exact hl, fun p hp => k _ _ hp q⟩
  · cases e
end
end L2.DL
end
section
set_option Elab.async false
set_option linter.all false
set_option maxRecDepth 100000
namespace L2.DL
open PySem PySem.Spec PyProof.Rows
set_option autoImplicit false

/-! ### what is read at once -/
theorem Bq.dp {K : Fg} {H : Hp} {O : Addr → Prop} {v : V} {d : PyData} (h : Bq K H O v d) : Dp K H v d := by
  rcases h with h | ⟨a, vs, ds, rfl, rfl, e, q⟩
  · exact Dq.dp d v h
  · exact .lst (.inl (.inl e)) (DqAll.dp ds vs q)
def CaB (K : Fg) (r : List V → Hp → VK → Prop) (g : PyData → Option PyData) : Prop :=
  ∀ x d z H O Q, Lists H O → Bq K H O x d → g d = some z → (∀ v H', More H H' → Dq K H' O v z → Q v H') → r [x] H Q
def CaBL (K : Fg) (r : List V → Hp → VK → Prop) (g : PyData → Option (List PyData)) : Prop :=
  ∀ x d zs H O Q, Lists H O → Bq K H O x d → g d = some zs → (∀ a vs, H a = none → DqAll K H O vs zs → Q (.ref a) (upd H a (.lst vs))) → r [x] H Q
def mUn (g : PyData → Option PyData) (m : MX PyData) : MX PyData := mBind m fun x => mLift (g x)
def mUnL (g : PyData → Option (List PyData)) (m : MX PyData) : MX (List PyData) := mBind m fun x => mLift (g x)
def mTru (g : PyData → Option Bool) (m : MX PyData) : MX Bool := mBind m fun x => mLift (g x)
section
variable {X : Cx} {W : WX} {a b : Expr} {ma mb : MX PyData} {ml : MX (List PyData)} {pos p : Pos} {e : Expr} {es : List Expr} {id Ty : String} {x : Str}
theorem de_un_gen {r : V → Hp → VK → Prop} {g : PyData → Option PyData} (hg : CaB X.K (fun xs H Q => ∀ x, xs = [x] → r x H Q) g) (h : PE X e (fun σ H Q => tBo X.K X.mg W ma σ H fun v H1 => r v H1 Q)) : DE X W e (mUn g ma) := by
  refine PE.imp h fun σ H Q ⟨η, T, r0, n0⟩ => ⟨η, T, r0, n0.bind fun x η1 e1 n1 v H1 s1 r1 q1 => ?_⟩
  obtain ⟨z, ez, p⟩ := n1.lift
  exact hg v x z H1 (Avd σ η1 T) Q r1.lists q1 ez (p.meet s1 r1) v rfl
theorem de_ca1 {r : List V → Hp → VK → Prop} {g : PyData → Option PyData} (hg : CaB X.K r g) (h : PE X e (tCB r (tCons (tBo X.K X.mg W ma) tNil))) : DE X W e (mUn g ma) := by
  refine PE.imp h fun σ H Q ⟨η, T, r0, n0⟩ => ⟨η, T, r0, n0.bind fun x η1 e1 n1 v H1 s1 r1 q1 => ?_⟩
  obtain ⟨z, ez, p⟩ := n1.lift
  exact hg v x z H1 (Avd σ η1 T) Q r1.lists q1 ez (p.meet s1 r1)
theorem df_ca1 {r : List V → Hp → VK → Prop} {g : PyData → Option (List PyData)} (hg : CaBL X.K r g) (h : PE X e (tCB r (tCons (tBo X.K X.mg W ma) tNil))) : DF X W e (mUnL g ma) := by
  refine PE.imp h fun σ H Q ⟨η, T, r0, n0⟩ => ⟨η, T, r0, n0.bind fun x η1 e1 n1 v H1 s1 r1 q1 => ?_⟩
  obtain ⟨z, ez, p⟩ := n1.lift
  exact hg v x z H1 (Avd σ η1 T) Q r1.lists q1 ez fun a vs na q => p.meet s1 r1 na q
/-- f(e), f a built-in function; a built-in type -/
theorem de_bf1 {r : List V → Hp → VK → Prop} {g : PyData → Option PyData} (hc : CallR X (.builtin id) r) (hg : CaB X.K r g) (hm : X.mg x = none) (hv : bootBuiltins x = some (.builtin id)) (ha : DB X W a ma) (gl : Gl X x := by rfl) (hn : x ≠ "__name__" := by decide) (hd : (x == ("__debug__" : Str)) = false := by decide)
    (hs : starEach (a :: []) X.env = (false, eval a X.env) :: starEach [] X.env := by rfl) (hpl : (backTo pos (starEach [] X.env)).any (·.1) = false := by rfl) : DE X W (.Call (.Name x p) [a] [] pos) (mUn g ma) :=
  de_ca1 hg (pe_callB hc gl hm hv (pa_cons ha pa_nil hs) hn hd hs hpl)
theorem df_bf1 {r : List V → Hp → VK → Prop} {g : PyData → Option (List PyData)} (hc : CallR X (.builtin id) r) (hg : CaBL X.K r g) (hm : X.mg x = none) (hv : bootBuiltins x = some (.builtin id)) (ha : DB X W a ma) (gl : Gl X x := by rfl) (hn : x ≠ "__name__" := by decide) (hd : (x == ("__debug__" : Str)) = false := by decide)
    (hs : starEach (a :: []) X.env = (false, eval a X.env) :: starEach [] X.env := by rfl) (hpl : (backTo pos (starEach [] X.env)).any (·.1) = false := by rfl) : DF X W (.Call (.Name x p) [a] [] pos) (mUnL g ma) :=
  df_ca1 hg (pe_callB hc gl hm hv (pa_cons ha pa_nil hs) hn hd hs hpl)
theorem de_ty1 {r : List V → Hp → VK → Prop} {g : PyData → Option PyData} (hc : CallR X (.type Ty) r) (hg : CaB X.K r g) (hm : X.mg x = none) (hv : bootBuiltins x = some (.type Ty)) (ha : DB X W a ma) (gl : Gl X x := by rfl) (hn : x ≠ "__name__" := by decide) (hd : (x == ("__debug__" : Str)) = false := by decide)
    (hs : starEach (a :: []) X.env = (false, eval a X.env) :: starEach [] X.env := by rfl) (hpl : (backTo pos (starEach [] X.env)).any (·.1) = false := by rfl) : DE X W (.Call (.Name x p) [a] [] pos) (mUn g ma) :=
  de_ca1 hg (pe_callTy hc gl hm hv (pa_cons ha pa_nil hs) hn hd hs hpl)
theorem df_ty1 {r : List V → Hp → VK → Prop} {g : PyData → Option (List PyData)} (hc : CallR X (.type Ty) r) (hg : CaBL X.K r g) (hm : X.mg x = none) (hv : bootBuiltins x = some (.type Ty)) (ha : DB X W a ma) (gl : Gl X x := by rfl) (hn : x ≠ "__name__" := by decide) (hd : (x == ("__debug__" : Str)) = false := by decide)
    (hs : starEach (a :: []) X.env = (false, eval a X.env) :: starEach [] X.env := by rfl) (hpl : (backTo pos (starEach [] X.env)).any (·.1) = false := by rfl) : DF X W (.Call (.Name x p) [a] [] pos) (mUnL g ma) :=
  df_ca1 hg (pe_callTy hc gl hm hv (pa_cons ha pa_nil hs) hn hd hs hpl)
/-- f(e1, ..), by data -/
theorem de_bfn {r : List V → Hp → VK → Prop} {g : List PyData → Option PyData} (hc : CallR X (.builtin id) r) (hg : CaG X.K r g) (hm : X.mg x = none) (hv : bootBuiltins x = some (.builtin id)) (ha : DA X W (a :: es) ml) (gl : Gl X x := by rfl) (hn : x ≠ "__name__" := by decide) (hd : (x == ("__debug__" : Str)) = false := by decide)
    (he : starEach (a :: es) X.env = (false, eval a X.env) :: starEach es X.env := by rfl) (hpl : (backTo pos (starEach es X.env)).any (·.1) = false := by rfl) : DE X W (.Call (.Name x p) (a :: es) [] pos) (mCa g ml) :=
  de_ca_gen hg (pe_callB hc gl hm hv ha hn hd he hpl)
/-- -e -/
def negD : PyData → Option PyData
  | .int i => some (.int (-i))
  | _ => none
theorem de_neg (ha : DE X W a ma) : DE X W (.UnaryOp .USub a pos) (mUn negD ma) := by
  refine PE.imp (pe_un un_neg ha) fun σ H Q ⟨η, T, r0, n0⟩ => ⟨η, T, r0, n0.bind fun x η1 e1 n1 v H1 s1 r1 q1 => ?_⟩
  obtain ⟨z, ez, p⟩ := n1.lift
  cases q1 <;> first
    | (cases ez; exact ⟨_, rfl, p.meet s1 r1 _ _ More.refl (.int _)⟩)
    | cases ez

/-! ### tests -/
def truD : PyData → Option Bool
  | .none => some false
  | .bool b => some b
  | .int i => some (i != 0)
  | .str y => if y.length ≤ sizeLine then some ((y.length : Int) != 0) else none
  | .list xs => some !xs.isEmpty
  | .tuple xs => some !xs.isEmpty
  | .dict _ => none
theorem emp_of {K : Fg} {H : Hp} {O : Addr → Prop} {ds : List PyData} {vs : List V} (h : DqAll K H O vs ds) : vs.isEmpty = ds.isEmpty := by
  cases h <;> rfl
theorem tru_of {K : Fg} {H : Hp} {O : Addr → Prop} {v : V} {d : PyData} {b : Bool} (h : Bq K H O v d) (e : truD d = some b) : TruV K v H b := by
  rcases h with h | ⟨a, vs, ds, rfl, rfl, ea, q⟩
  · cases h with
    | non => cases e; rfl
    | bl c => cases e; rfl
    | int i => cases e; rfl
    | str y =>
      simp only [truD] at e
      split at e
      · rename_i hl
        cases e
        exact ⟨hl, rfl⟩
      · cases e
    | lst no r all => cases e; exact .inl ⟨_, .inl r, by rw [emp_of all]⟩
    | tup r all => cases e; exact .inr (.inl ⟨_, r, by rw [emp_of all]⟩)
  · cases e; exact .inl ⟨vs, .inl (.inl ea), by rw [emp_of q]⟩
/-- any expression as a test, by its value's truth -/
theorem dt_val (ha : DB X W a ma) (he : ∀ whole, isTrue a X.env whole = (do let v ← whole; standAt a.pos; holding [v] (truthy v)) := by intro _; rfl) : DT X W a (mTru truD ma) := by
  refine PT.imp (pt_truth ha he) fun σ H Q ⟨η, T, r0, n0⟩ => ⟨η, T, r0, n0.bind fun x η1 e1 n1 v H1 s1 r1 q1 => ?_⟩
  obtain ⟨z, ez, p⟩ := n1.lift
  exact ⟨z, tru_of q1 ez, p H1 s1 r1⟩
def boolD : PyData → Option Bool
  | .bool b => some b
  | _ => none
/-- a comparison as a test -/
theorem dt_of_op {r : R2} {m : MX PyData} (h : PT X e (tTest (tD X.K X.mg W m))) : DT X W e (mTru boolD m) := by
  refine PT.imp h fun σ H Q ⟨η, T, r0, n0⟩ => ⟨η, T, r0, n0.bind fun x η1 e1 n1 v H1 s1 r1 q1 => ?_⟩
  obtain ⟨z, ez, p⟩ := n1.lift
  cases q1 <;> first
    | (cases ez; exact ⟨_, rfl, p H1 s1 r1⟩)
    | cases ez
theorem tTest_imp {t t' : TE} (i : ∀ σ H Q, t' σ H Q → t σ H Q) : ∀ σ H Q, tTest t' σ H Q → tTest t σ H Q := fun σ H Q h => i σ H _ h
def mAnd (m k : MX Bool) : MX Bool := mBind m fun b => if b = true then k else mPure false
def mOr (m k : MX Bool) : MX Bool := mBind m fun b => if b = true then mPure true else k
def mNot (m : MX Bool) : MX Bool := mBind m fun b => mPure (!b)
variable {m k : MX Bool} {rest : List Expr}
theorem dw_and1 (ha : DT X W a m) : DW X W (.BoolOp .And [a] pos) m := pw_and1 ha
theorem dw_or1 (ha : DT X W a m) : DW X W (.BoolOp .Or [a] pos) m := pw_or1 ha
theorem dw_and (ha : DT X W a m) (hb : DW X W (.BoolOp .And (b :: rest) pos) k) : DW X W (.BoolOp .And (a :: b :: rest) pos) (mAnd m k) := by
  refine PW.imp (pw_and ha hb) fun σ H Q ⟨η, T, r0, n0⟩ => ⟨η, T, r0, n0.bind fun x η1 e1 n1 H1 s1 r1 => ?_⟩
  cases x with
  | true => rw [if_pos rfl]; exact ⟨η1, T, r1, Nx.later PTs.later s1 n1⟩
  | false => rw [if_neg Bool.false_ne_true]; exact Nx.pure n1 H1 s1 r1
theorem dw_or (ha : DT X W a m) (hb : DW X W (.BoolOp .Or (b :: rest) pos) k) : DW X W (.BoolOp .Or (a :: b :: rest) pos) (mOr m k) := by
  refine PW.imp (pw_or ha hb) fun σ H Q ⟨η, T, r0, n0⟩ => ⟨η, T, r0, n0.bind fun x η1 e1 n1 H1 s1 r1 => ?_⟩
  cases x with
  | true => rw [if_pos rfl]; exact Nx.pure n1 H1 s1 r1
  | false => rw [if_neg Bool.false_ne_true]; exact ⟨η1, T, r1, Nx.later PTs.later s1 n1⟩
theorem DW.toT (h : DW X W e m) : DT X W e m := PW.pt h
theorem dt_not (ha : DT X W a m) : DT X W (.UnaryOp .Not a pos) (mNot m) := by
  refine PT.imp (pt_not ha) fun σ H Q ⟨η, T, r0, n0⟩ => ⟨η, T, r0, n0.bind fun x η1 e1 n1 H1 s1 r1 => ?_⟩
  exact n1.pure H1 s1 r1
/-- and, or, not as values: the parts True or False -/
def mAndV (m k : MX PyData) : MX PyData := mBind m fun x => match x with
  | .bool true => k
  | .bool false => mPure (.bool false)
  | _ => fun _ => none
def mOrV (m k : MX PyData) : MX PyData := mBind m fun x => match x with
  | .bool true => mPure (.bool true)
  | .bool false => k
  | _ => fun _ => none
theorem de_one {op} {m : MX PyData} (h : DE X W a m) : DE X W (.BoolOp op [a] pos) m := pe_one h
theorem de_and (ha : DE X W a ma) (hb : DE X W (.BoolOp .And (b :: rest) pos) mb) : DE X W (.BoolOp .And (a :: b :: rest) pos) (mAndV ma mb) := by
  refine PE.imp (pe_and ha hb) fun σ H Q ⟨η, T, r0, n0⟩ => ⟨η, T, r0, n0.bind fun x η1 e1 n1 v H1 s1 r1 q1 => ?_⟩
  cases q1 with
  | bl c =>
    refine ⟨c, rfl, ?_⟩
    cases c with
    | true => rw [if_pos rfl]; exact ⟨η1, T, r1, n1.later PD.later s1⟩
    | false => rw [if_neg Bool.false_ne_true]; exact n1.pure (.bl false) H1 s1 r1 (.bl false)
  | _ => obtain ⟨_, _, z, _⟩ := n1; cases z
theorem de_or (ha : DE X W a ma) (hb : DE X W (.BoolOp .Or (b :: rest) pos) mb) : DE X W (.BoolOp .Or (a :: b :: rest) pos) (mOrV ma mb) := by
  refine PE.imp (pe_or ha hb) fun σ H Q ⟨η, T, r0, n0⟩ => ⟨η, T, r0, n0.bind fun x η1 e1 n1 v H1 s1 r1 q1 => ?_⟩
  cases q1 with
  | bl c =>
    refine ⟨c, rfl, ?_⟩
    cases c with
    | false => rw [if_neg Bool.false_ne_true]; exact ⟨η1, T, r1, n1.later PD.later s1⟩
    | true => rw [if_pos rfl]; exact n1.pure (.bl true) H1 s1 r1 (.bl true)
  | _ => obtain ⟨_, _, z, _⟩ := n1; cases z
def mNotV (m : MX PyData) : MX PyData := mBind m fun x => match x with
  | .bool b => mPure (.bool !b)
  | _ => fun _ => none
theorem de_not (ha : DE X W a ma) : DE X W (.UnaryOp .Not a pos) (mNotV ma) := by
  refine PE.imp (pe_not ha) fun σ H Q ⟨η, T, r0, n0⟩ => ⟨η, T, r0, n0.bind fun x η1 e1 n1 v H1 s1 r1 q1 => ?_⟩
  cases q1 with
  | bl c => exact ⟨c, rfl, n1.pure (.bl !c) H1 s1 r1 (.bl !c)⟩
  | _ => obtain ⟨_, _, z, _⟩ := n1; cases z
def mIf {α : Type} (c : MX Bool) (m k : MX α) : MX α := mBind c fun b => if b = true then m else k
theorem de_if {c : Expr} (hc : DT X W c m) (ha : DE X W a ma) (hb : DE X W b mb) : DE X W (.IfExp c a b pos) (mIf m ma mb) := by
  refine PE.imp (pe_ifExp hc ha hb) fun σ H Q ⟨η, T, r0, n0⟩ => ⟨η, T, r0, n0.bind fun x η1 e1 n1 H1 s1 r1 => ?_⟩
  cases x with
  | true => rw [if_pos rfl]; exact ⟨η1, T, r1, Nx.later PD.later s1 n1⟩
  | false => rw [if_neg Bool.false_ne_true]; exact ⟨η1, T, r1, Nx.later PD.later s1 n1⟩
theorem df_if {c : Expr} {la lb : MX (List PyData)} (hc : DT X W c m) (ha : DF X W a la) (hb : DF X W b lb) : DF X W (.IfExp c a b pos) (mIf m la lb) := by
  refine PE.imp (pe_ifExp hc ha hb) fun σ H Q ⟨η, T, r0, n0⟩ => ⟨η, T, r0, n0.bind fun x η1 e1 n1 H1 s1 r1 => ?_⟩
  cases x with
  | true => rw [if_pos rfl]; exact ⟨η1, T, r1, Nx.later PL.later s1 n1⟩
  | false => rw [if_neg Bool.false_ne_true]; exact ⟨η1, T, r1, Nx.later PL.later s1 n1⟩
end
end L2.DL
end
section
set_option Elab.async false
set_option linter.all false
set_option maxRecDepth 100000
namespace L2.DL
open PySem PySem.Spec PyProof.Rows
set_option autoImplicit false

/-! ### what a def promises: a plain function of the arguments' slots -/
inductive RV where
  | d (x : PyData)
  | l (xs : List PyData)
def RV.val : RV → PyData
  | .d x => x
  | .l xs => .list xs
abbrev FS := EnvD → Option (R RV × EnvD)
def PV (K : Fg) (mg : Str → Option Value) : Ps RV VK := fun σ H η T Q r η' => match r with
  | .d x => PD K mg σ H η T Q x η'
  | .l xs => PL K mg σ H η T Q xs η'
def spG (K : Fg) (mg : Str → Option Value) (n : Nat) (F : FS) : Sp := fun vs H Q E => vs.length = n ∧ ∃ args T, Rp K mg (vs.map some) H args T ∧ Nx K mg (fun cls dd _ H' => E cls dd H') (PV K mg) (vs.map some) H args T Q (F args)
def valsE (ds : List PyData) : EnvD := ds.map fun d => some (.val d)
/-- by values alone -/
def fnV (F : FS) (ds : List PyData) : Option (R RV) := (F (valsE ds)).map (·.1)
/-- the first argument an own list of the caller's: its items behind the call -/
def fnI (F : FS) (xs ds : List PyData) : Option (R (RV × List PyData)) := match F (some (.own true xs) :: valsE ds) with
  | some (.ok r, some (.own true ys) :: _) => some (.ok (r, ys))
  | _ => none

section
variable {K : Fg} {mg : Str → Option Value} {σ : St} {H H' : Hp} {η : EnvD} {T : Addr → Prop}
theorem valsE_get {ds : List PyData} {i : Nat} {s : Slot} (h : (valsE ds)[i]? = some (some s)) : ∃ d, s = .val d ∧ ds[i]? = some d := by
  unfold valsE at h
  rw [List.getElem?_map] at h
  cases e : ds[i]? with
  | none => rw [e] at h; cases h
  | some d => rw [e] at h; cases h; exact ⟨d, rfl, rfl⟩
theorem no_own {ds : List PyData} {q : Addr} (h : OwnAt σ (valsE ds) q) : False := by
  obtain ⟨i, b, xs, e, _⟩ := h
  obtain ⟨d, z, _⟩ := valsE_get e
  cases z
/-- the arguments of a call by values -/
theorem Rp.args {O : Addr → Prop} {vs : List V} {ds : List PyData} (l : Lists H O) (q : DqAll K H O vs ds) : Rp K mg (vs.map some) H (valsE ds) O := by
  have kA : ∀ z, Avd (vs.map some) (valsE ds) O z → O z := fun z w => w.elim id fun w => (no_own w).elim
  refine ⟨fun i d h => ?_, fun i b xs h => ?_, fun i nm d h => ?_, fun i j b b' d1 d2 a h => ?_, l, ?_⟩
  · obtain ⟨d', z, e⟩ := valsE_get h
    cases z
    obtain ⟨v, ev, qv⟩ := q.get e
    exact ⟨v, by rw [List.getElem?_map, ev]; rfl, Dq.less kA d v qv⟩
  · obtain ⟨d', z, e⟩ := valsE_get h
    cases z
  · obtain ⟨d', z, e⟩ := valsE_get h
    cases z
  · obtain ⟨d', z, e⟩ := valsE_get h
    cases z
  · unfold valsE
    rw [List.length_map, List.length_map, q.length]
    exact Nat.le_refl _
end

/-- a def of the text, called by values -/
def mCall (f : List PyData → Option (R RV)) (ml : MX (List PyData)) : MX PyData := mBind ml fun xs => fun η => match f xs with
  | some (.ok r) => some (.ok r.val, η)
  | some (.exc n d) => some (.exc n d, η)
  | none => none
def mCallL (f : List PyData → Option (R RV)) (ml : MX (List PyData)) : MX (List PyData) := mBind ml fun xs => fun η => match f xs with
  | some (.ok (.l r)) => some (.ok r, η)
  | some (.exc n d) => some (.exc n d, η)
  | _ => none
section
variable {X : Cx} {W : WX} {ml : MX (List PyData)} {e : Expr} {es : List Expr} {F : FS} {n : Nat}
/-- behind a call by values -/
theorem behind {H1 H' : Hp} {σ' : St} {η' : EnvD} {vs : List V} {xs : List PyData} (s : StepS (vs.map some) H1 (valsE xs) σ' H' η') : More H1 H' :=
  fun q o h => s.keep q o h fun z => no_own z
theorem de_call_gen (h : PE X e (fun σ H Q => tAr X.K X.mg W ml σ H fun vs H1 => spG X.K X.mg n F vs H1 Q (WE W σ))) (hn : ∀ η xs η1, ml η = some (.ok xs, η1) → xs.length = n) : DE X W e (mCall (fnV F) ml) := by
  refine PE.imp h fun σ H Q ⟨η, T, r0, n0⟩ => ⟨η, T, r0, n0.bind fun xs η1 e1 n1 vs H1 s1 r1 q1 => ?_⟩
  refine ⟨by rw [q1.length]; exact hn η xs η1 e1, valsE xs, Avd σ η1 T, Rp.args r1.lists q1, ?_⟩
  obtain ⟨o, η', eo, p⟩ := n1
  unfold fnV at eo
  cases eF : F (valsE xs) with
  | none => rw [eF] at eo; cases eo
  | some w =>
    obtain ⟨w, ηw⟩ := w
    rw [eF] at eo
    cases w with
    | ok r =>
      cases eo
      refine ⟨.ok r, ηw, rfl, ?_⟩
      have p : PD X.K X.mg σ H η T Q r.val η1 := p
      cases r with
      | d x =>
        intro v H' s r' q
        have k : More H1 H' := behind s
        exact p.meet s1 r1 v H' k (Dq.less (fun z w => .inl w) x v q)
      | l ys =>
        intro a ws H' s na ea r' q no
        have k : More H1 H' := behind s
        refine p.meet s1 r1 (.ref a) H' k (.lst (fun z => no (.inl z)) (.inl ea) (DqAll.less (fun z w => .inl (.inl w)) ys ws q))
    | exc nm d =>
      cases eo
      refine ⟨.exc nm d, ηw, rfl, fun cls dd σ' H' s r' q => ?_⟩
      have k : More H1 H' := behind s
      obtain ⟨C, a, v, h1, h2, h3, h4, h5⟩ := q
      exact p cls dd σ H' (s1.trans (StepS.more k)) (r1.more k) ⟨C, a, v, h1, h2, h3, h4, Dq.less (fun z w => .inl w) d v h5⟩
theorem df_call_gen (h : PE X e (fun σ H Q => tAr X.K X.mg W ml σ H fun vs H1 => spG X.K X.mg n F vs H1 Q (WE W σ))) (hn : ∀ η xs η1, ml η = some (.ok xs, η1) → xs.length = n) : DF X W e (mCallL (fnV F) ml) := by
  refine PE.imp h fun σ H Q ⟨η, T, r0, n0⟩ => ⟨η, T, r0, n0.bind fun xs η1 e1 n1 vs H1 s1 r1 q1 => ?_⟩
  refine ⟨by rw [q1.length]; exact hn η xs η1 e1, valsE xs, Avd σ η1 T, Rp.args r1.lists q1, ?_⟩
  obtain ⟨o, η', eo, p⟩ := n1
  unfold fnV at eo
  cases eF : F (valsE xs) with
  | none => rw [eF] at eo; cases eo
  | some w =>
    obtain ⟨w, ηw⟩ := w
    rw [eF] at eo
    cases w with
    | ok r =>
      cases r with
      | d x => cases eo
      | l ys =>
        cases eo
        refine ⟨.ok (.l ys), ηw, rfl, fun a ws H' s na ea r' q no => ?_⟩
        have k : More H1 H' := behind s
        have p : PL X.K X.mg σ H η T Q ys η1 := p
        have nA : ¬ Avd σ η1 T a := fun z => no (.inl z)
        have rT : Rp X.K X.mg σ H' η1 (fun q => T q ∨ q = a) := r1.new' na k ea
        exact p a ws H' (s1.trans (StepS.more k)) (s1.tr a na) ea rT (DqAll.less (fun z w => .inl (avdT w)) ys ws q) nA
    | exc nm d =>
      cases eo
      refine ⟨.exc nm d, ηw, rfl, fun cls dd σ' H' s r' q => ?_⟩
      have k : More H1 H' := behind s
      obtain ⟨C, a, v, h1, h2, h3, h4, h5⟩ := q
      exact p cls dd σ H' (s1.trans (StepS.more k)) (r1.more k) ⟨C, a, v, h1, h2, h3, h4, Dq.less (fun z w => .inl w) d v h5⟩
end
end L2.DL
end
section
set_option Elab.async false
set_option linter.all false
set_option maxRecDepth 100000
namespace L2.DL
open PySem PySem.Spec PyProof.Rows
set_option autoImplicit false

/-! ### a call whose first argument is an own list, changed by the callee -/
def mCallI' (F : FS) (i : Nat) (ml : MX (List PyData)) : MX RV := fun η => match η[i]? with
  | some (some (.own _ _)) => mBind ml (fun ds η1 => match η1[i]? with
    | some (some (.own b xs)) => match fnI F xs ds with
      | some (.ok (r, ys)) => some (.ok r, η1.set i (some (.own b ys)))
      | _ => none
    | _ => none) η
  | _ => none
def mCallI (F : FS) (i : Nat) (ml : MX (List PyData)) : MX PyData := mBind (mCallI' F i ml) fun r => mPure r.val
def mCallIL (F : FS) (i : Nat) (ml : MX (List PyData)) : MX (List PyData) := mBind (mCallI' F i ml) fun r => match r with
  | .l xs => mPure xs
  | .d _ => fun _ => none
section
variable {K : Fg} {mg : Str → Option Value} {σ σv : St} {H H' : Hp} {η : EnvD} {T : Addr → Prop}
theorem own_same {i : Nat} {b : Bool} {xs ys : List PyData} (h : η[i]? = some (some (.own b xs))) {q : Addr} : OwnAt σ (η.set i (some (.own b ys))) q ↔ OwnAt σ η q := by
  constructor
  · rintro ⟨j, b', ds, e1, e2⟩
    rcases set_get e1 with ⟨e, e'⟩ | ⟨_, e⟩
    · subst e
      exact ⟨i, b, xs, h, e2⟩
    · exact ⟨j, b', ds, e, e2⟩
  · rintro ⟨j, b', ds, e1, e2⟩
    by_cases e : i = j
    · subst e
      exact ⟨i, b, ys, List.getElem?_set_self (List.getElem?_eq_some_iff.mp h).1, e2⟩
    · exact ⟨j, b', ds, by rw [List.getElem?_set_ne e]; exact e1, e2⟩
/-- the list at a slot has changed, all else stands; T' may tell a new list apart -/
theorem Rp.turn' {T' : Addr → Prop} {i : Nat} {b : Bool} {xs ys : List PyData} {a : Addr} {ws : List V} (r : Rp K mg σ H η T) (h : η[i]? = some (some (.own b xs))) (ha : σ[i]? = some (some (.ref a))) (tr : ∀ q, H' q = none → H q = none) (keep : ∀ q o, H q = some o → q ≠ a → H' q = some o)
    (e' : H' a = some (.lst ws)) (hT : ∀ q, T' q → T q ∨ H q = none) (tl' : ∀ q, T' q → ∃ xs, H' q = some (.lst xs)) (q' : DqAll K H' (fun q => Avd σ η T q ∨ T' q) ws ys) : Rp K mg σ H' (η.set i (some (.own b ys))) T' ∧ StepS σ H η σ H' (η.set i (some (.own b ys))) := by
  have oa : OwnAt σ η a := ⟨i, b, xs, h, ha⟩
  have ne : ∀ q, ¬ OwnAt σ η q → q ≠ a := fun q n z => n (z ▸ oa)
  have hav : ∀ q, Avd σ (η.set i (some (.own b ys))) T' q → Avd σ η T q ∨ T' q := fun q z => z.elim .inr fun z => .inl (.inr ((own_same h).mp z))
  have kp : Kp (Avd σ η T) (Avd σ (η.set i (some (.own b ys))) T') H H' := ⟨fun q o h n => keep q o h (ne q fun z => n (.inr z)), r.avd, fun q z => by
    rcases hav q z with z | z
    · exact .inl z
    · exact (hT q z).imp .inl id⟩
  have ta : ¬ T' a := fun z => by
    obtain ⟨a', vs, e1, e2, _, n⟩ := r.own i b xs h
    rw [ha] at e1; cases e1
    rcases hT a z with w | w
    · exact n w
    · rw [e2] at w; cases w
  refine ⟨⟨fun j d h' => ?_, fun j b' ds' h' => ?_, fun j nm d h' => ?_, fun j k b1 b2 d1 d2 a' h1 h2 h3 h4 => ?_, tl', by simpa using r.len⟩, ⟨tr, fun q o h n => keep q o h (ne q n), fun q z => .inl ((own_same h).mp z), fun q z => .inl ?_, fun j ds z => ?_⟩⟩
  · rcases set_get h' with ⟨_, e⟩ | ⟨_, e⟩
    · cases e
    · obtain ⟨v, e1, q1⟩ := r.val j d e
      exact ⟨v, e1, Dq.keep kp d v q1⟩
  · rcases set_get h' with ⟨e, ee⟩ | ⟨nj, e⟩
    · cases ee
      subst e
      exact ⟨a, ws, ha, e', DqAll.less hav _ _ q', ta⟩
    · obtain ⟨a2, vs2, e1, e2, q1, n1⟩ := r.own j b' ds' e
      refine ⟨a2, vs2, e1, keep a2 _ e2 fun z => ?_, DqAll.keep kp ds' vs2 q1, fun z => ?_⟩
      · subst z
        exact nj (r.inj i j b b' xs ds' a2 h e ha e1)
      · rcases hT a2 z with w | w
        · exact n1 w
        · rw [e2] at w; cases w
  · rcases set_get h' with ⟨_, e⟩ | ⟨_, e⟩
    · cases e
    · obtain ⟨a2, e1, q1⟩ := r.exc j nm d e
      exact ⟨a2, e1, q1.kp kp⟩
  · have f : ∀ {j : Nat} {b1 : Bool} {d1 : List PyData}, (η.set i (some (.own b ys)))[j]? = some (some (.own b1 d1)) → ∃ d2, η[j]? = some (some (.own b1 d2)) := fun {j b1 d1} z => by
      rcases set_get z with ⟨e, e'⟩ | ⟨_, e⟩
      · cases e'
        subst e
        exact ⟨xs, h⟩
      · exact ⟨d1, e⟩
    obtain ⟨d3, h5⟩ := f h1
    obtain ⟨d4, h6⟩ := f h2
    exact r.inj j k b1 b2 d3 d4 a' h5 h6 h3 h4
  · obtain ⟨j, ds, e1, e2⟩ := z
    rcases set_get e1 with ⟨e, e'⟩ | ⟨_, e⟩
    · cases e'
      subst e
      exact ⟨i, xs, h, e2⟩
    · exact ⟨j, ds, e, e2⟩
  · rcases set_get z with ⟨e, e'⟩ | ⟨_, e⟩
    · cases e'
      subst e
      exact ⟨⟨xs, h⟩, rfl⟩
    · exact ⟨⟨ds, e⟩, rfl⟩
theorem Rp.turn {i : Nat} {b : Bool} {xs ys : List PyData} {a : Addr} {ws : List V} (r : Rp K mg σ H η T) (h : η[i]? = some (some (.own b xs))) (ha : σ[i]? = some (some (.ref a))) (tr : ∀ q, H' q = none → H q = none) (keep : ∀ q o, H q = some o → q ≠ a → H' q = some o)
    (e' : H' a = some (.lst ws)) (q' : DqAll K H' (Avd σ η T) ws ys) : Rp K mg σ H' (η.set i (some (.own b ys))) T ∧ StepS σ H η σ H' (η.set i (some (.own b ys))) := by
  refine r.turn' h ha tr keep e' (fun q z => .inl z) (fun q z => ?_) (DqAll.less (fun q z => z.elim id .inl) _ _ q')
  obtain ⟨vs, e⟩ := r.tl q z
  obtain ⟨a', vs', e1, e2, _, n⟩ := r.own i b xs h
  rw [ha] at e1; cases e1
  exact ⟨vs, keep q _ e fun w => n (w ▸ z)⟩
theorem cons_get {α : Type} {l : List α} {x y : α} {i : Nat} (h : (x :: l)[i]? = some y) : (i = 0 ∧ y = x) ∨ ∃ j, i = j + 1 ∧ l[j]? = some y := by
  cases i with
  | zero => exact .inl ⟨rfl, (Option.some.inj h).symm⟩
  | succ j => exact .inr ⟨j, rfl, h⟩
/-- the arguments of such a call -/
theorem Rp.argsI {O : Addr → Prop} {a : Addr} {ws vs : List V} {xs ds : List PyData} (l : Lists H O) (oa : O a) (ea : H a = some (.lst ws)) (qa : DqAll K H O ws xs) (q : DqAll K H O vs ds) :
    Rp K mg ((V.ref a :: vs).map some) H (some (.own true xs) :: valsE ds) (fun z => O z ∧ z ≠ a) := by
  have own : ∀ z, OwnAt ((V.ref a :: vs).map some) (some (.own true xs) :: valsE ds) z → z = a := fun z ⟨i, b, d, e1, e2⟩ => by
    rcases cons_get e1 with ⟨rfl, _⟩ | ⟨j, rfl, e⟩
    · cases e2; rfl
    · obtain ⟨_, w, _⟩ := valsE_get e
      cases w
  have kA : ∀ z, Avd ((V.ref a :: vs).map some) (some (.own true xs) :: valsE ds) (fun z => O z ∧ z ≠ a) z → O z := fun z w => w.elim And.left fun w => (own z w) ▸ oa
  refine ⟨fun i d h => ?_, fun i b d h => ?_, fun i nm d h => ?_, fun i j b b' d1 d2 c h1 h2 _ _ => ?_, fun z w => l z w.1, ?_⟩
  · rcases cons_get h with ⟨_, e⟩ | ⟨j, rfl, e⟩
    · cases e
    · obtain ⟨d', z, e⟩ := valsE_get e
      cases z
      obtain ⟨v, ev, qv⟩ := q.get e
      exact ⟨v, by simp [ev], Dq.less kA d v qv⟩
  · rcases cons_get h with ⟨rfl, e⟩ | ⟨j, rfl, e⟩
    · cases e
      exact ⟨a, ws, rfl, ea, DqAll.less kA _ _ qa, fun z => z.2 rfl⟩
    · obtain ⟨d', z, e⟩ := valsE_get e
      cases z
  · rcases cons_get h with ⟨rfl, e⟩ | ⟨j, rfl, e⟩
    · cases e
    · obtain ⟨d', z, e⟩ := valsE_get e
      cases z
  · rcases cons_get h1 with ⟨rfl, e⟩ | ⟨j', rfl, e⟩
    · rcases cons_get h2 with ⟨rfl, e⟩ | ⟨j', rfl, e⟩
      · rfl
      · obtain ⟨d', z, e⟩ := valsE_get e
        cases z
    · obtain ⟨d', z, e⟩ := valsE_get e
      cases z
  · simp [valsE, q.length]
end
section
variable {X : Cx} {W : WX} {ml : MX (List PyData)} {e : Expr} {es : List Expr} {F : FS} {n i : Nat}
theorem callI_gen {P : Ps RV VK} (hP : Later P) (hPV : ∀ σ H η T Q r η', P σ H η T Q r η' → PV X.K X.mg σ H η T Q r η') {σ : St} {H : Hp} {Q : VK} {η : EnvD} {T : Addr → Prop} (hn : ∀ η xs η1, ml η = some (.ok xs, η1) → xs.length + 1 = n) (r0 : Rp X.K X.mg σ H η T)
    (n0 : Nx X.K X.mg W P σ H η T Q (mCallI' F i ml η)) : ∃ v, σ[i]? = some (some v) ∧ tAr X.K X.mg W ml σ H (fun vs H1 => spG X.K X.mg n F (v :: vs) H1 Q (WE W σ)) := by
  unfold mCallI' at n0
  split at n0
  · rename_i b0 x0 h0
    obtain ⟨a, w0, ea, _⟩ := r0.own i b0 x0 h0
    refine ⟨.ref a, ea, η, T, r0, n0.bind fun ds η1 e1 n1 vs H1 s1 r1 q1 => ?_⟩
    refine ⟨by rw [List.length_cons, q1.length]; exact hn η ds η1 e1, ?_⟩
    obtain ⟨o, η', eo, p⟩ := n1
    split at eo
    · rename_i b xs hx
      obtain ⟨a', ws, ea', e2, q2, na⟩ := r1.own i b xs hx
      rw [ea] at ea'; cases ea'
      have oa : Avd σ η1 T a := .inr ⟨i, b, xs, hx, ea⟩
      refine ⟨some (.own true xs) :: valsE ds, fun z => Avd σ η1 T z ∧ z ≠ a, Rp.argsI r1.lists oa e2 q2 q1, ?_⟩
      unfold fnI at eo
      split at eo
      · rename_i r ys hF
        split at hF
        · rename_i r' ys' tl hF'
          cases hF
          cases eo
          refine ⟨.ok r, _, hF', ?_⟩
          have p : PV X.K X.mg σ H η T Q r (η1.set i (some (.own b ys))) := hPV _ _ _ _ _ _ _ p
          have fin : ∀ {H' : Hp} {T' : Addr → Prop} {T2 : Addr → Prop}, StepS ((V.ref a :: vs).map some) H1 (some (.own true xs) :: valsE ds) ((V.ref a :: vs).map some) H' (some (.own true ys) :: tl) → Rp X.K X.mg ((V.ref a :: vs).map some) H' (some (.own true ys) :: tl) T' → (∀ z, Avd σ η1 T z ∧ z ≠ a → T' z) →
              (∀ q, T2 q → T q ∨ H1 q = none) → (∀ q, T2 q → T' q) →
              Rp X.K X.mg σ H' (η1.set i (some (.own b ys))) T2 ∧ StepS σ H η σ H' (η1.set i (some (.own b ys))) ∧ (∀ z, Avd σ (η1.set i (some (.own b ys))) T2 z → Avd ((V.ref a :: vs).map some) (some (.own true ys) :: tl) T' z) := fun {H' T' T2} s r' hT h2 h3 => by
            obtain ⟨a2, ws', ea2, e3, q3, n3⟩ := r'.own 0 true ys rfl
            cases ea2
            have kA : ∀ z, Avd σ η1 T z → Avd ((V.ref a :: vs).map some) (some (.own true ys) :: tl) T' z := fun z w => by
              by_cases ez : z = a
              · subst ez
                exact .inr ⟨0, true, ys, rfl, rfl⟩
              · exact .inl (hT z ⟨w, ez⟩)
            obtain ⟨A, B⟩ := r1.turn' (T' := T2) hx ea s.tr (fun q o h ne => s.keep q o h fun z => by
              obtain ⟨j, b', d, z1, z2⟩ := z
              rcases cons_get z1 with ⟨rfl, _⟩ | ⟨k, rfl, z3⟩
              · cases z2; exact ne rfl
              · obtain ⟨_, w, _⟩ := valsE_get z3
                cases w) e3 h2 (fun q z => r'.tl q (h3 q z)) (DqAll.less (fun z w => w.elim (kA z) fun w => .inl (h3 z w)) _ _ q3)
            exact ⟨A, s1.trans B, fun z w => w.elim (fun w => .inl (h3 z w)) fun w => kA z (.inr ((own_same hx).mp w))⟩
          cases r with
          | d x =>
            intro v H' s r' q
            obtain ⟨A, B, C⟩ := fin (T2 := T) s r' (fun _ z => z) (fun _ z => .inl z) fun q z => ⟨.inl z, fun w => na (by rw [← w]; exact z)⟩
            exact p v H' B A (Dq.less C x v q)
          | l zs =>
            intro c cs H' s nc ec r' q no
            obtain ⟨A, B, C⟩ := fin (T2 := fun q => T q ∨ q = c) s r' (fun _ z => .inl z) (fun q z => z.imp id fun z => by rw [z]; exact nc) fun q z => z.imp (fun z => ⟨.inl z, fun w => na (by rw [← w]; exact z)⟩) id
            refine p c cs H' B (s1.tr c nc) ec A (DqAll.less C zs cs q) fun z => ?_
            rcases z with z | z
            · obtain ⟨_, w⟩ := r1.tl c z
              rw [nc] at w; cases w
            · obtain ⟨_, w⟩ := r1.avd c (.inr ((own_same hx).mp z))
              rw [nc] at w; cases w
        · cases hF
      · cases eo
    · cases eo
  · obtain ⟨_, _, z, _⟩ := n0; cases z
theorem de_callI_gen (h : PE X e (fun σ H Q => ∃ v, σ[i]? = some (some v) ∧ tAr X.K X.mg W ml σ H (fun vs H1 => spG X.K X.mg n F (v :: vs) H1 Q (WE W σ)))) (hn : ∀ η xs η1, ml η = some (.ok xs, η1) → xs.length + 1 = n) : DE X W e (mCallI F i ml) := by
  refine PE.imp h fun σ H Q ⟨η, T, r0, n0⟩ => ?_
  refine callI_gen (P := fun σ H η T Q r η' => PD X.K X.mg σ H η T Q r.val η') (fun σ H η T Q x η' H1 η1 s p => PD.later _ _ _ _ _ _ _ _ _ s p) (fun σ H η T Q r η' p => ?_) hn r0 (Nx.bind n0 fun r η1 e1 n1 => n1.pure)
  cases r with
  | d x => exact p
  | l xs =>
    intro a vs H' s na ea r' q no
    exact p (.ref a) H' s (r'.lessT fun q z => .inl z) (.lst no (.inl ea) (DqAll.less (fun q z => z.imp .inl id) xs vs q))
theorem df_callI_gen (h : PE X e (fun σ H Q => ∃ v, σ[i]? = some (some v) ∧ tAr X.K X.mg W ml σ H (fun vs H1 => spG X.K X.mg n F (v :: vs) H1 Q (WE W σ)))) (hn : ∀ η xs η1, ml η = some (.ok xs, η1) → xs.length + 1 = n) : DF X W e (mCallIL F i ml) := by
  refine PE.imp h fun σ H Q ⟨η, T, r0, n0⟩ => ?_
  refine callI_gen (P := fun σ H η T Q r η' => ∃ xs, r = .l xs ∧ PL X.K X.mg σ H η T Q xs η') (fun σ H η T Q x η' H1 η1 s ⟨xs, e, p⟩ => ⟨xs, e, PL.later _ _ _ _ _ _ _ _ _ s p⟩) (fun σ H η T Q r η' ⟨xs, e, p⟩ => ?_) hn r0 (Nx.bind n0 fun r η1 e1 n1 => ?_)
  · subst e
    exact p
  · cases r with
    | l xs => exact ⟨xs, rfl, n1.pure⟩
    | d x => obtain ⟨_, _, z, _⟩ := n1; cases z
end
end L2.DL
end
section
set_option Elab.async false
set_option linter.all false
set_option maxRecDepth 100000
namespace L2.DL
open PySem PySem.Spec PyProof.Rows
set_option autoImplicit false

/-! ### statements -/
inductive Fl where
  | nx | bk | ct
  | rt (r : RV)
def PSt (K : Fg) (mg : Str → Option Value) : Ps Fl Ends := fun σ H η T D fl η' => match fl with
  | .nx => ∀ σ' H', StepS σ H η σ' H' η' → Rp K mg σ' H' η' T → D.nx σ' H'
  | .bk => ∀ σ' H', StepS σ H η σ' H' η' → Rp K mg σ' H' η' T → D.bk σ' H'
  | .ct => ∀ σ' H', StepS σ H η σ' H' η' → Rp K mg σ' H' η' T → D.ct σ' H'
  | .rt (.d x) => ∀ v σ' H', StepS σ H η σ' H' η' → Rp K mg σ' H' η' T → Dq K H' (Avd σ' η' T) v x → D.rt v H'
  | .rt (.l xs) => ∀ a vs σ' H', StepS σ H η σ' H' η' → (FreeAt σ η a ∨ H a = none) → H' a = some (.lst vs) → Rp K mg σ' H' η' (fun q => T q ∨ q = a) → DqAll K H' (Avd σ' η' fun q => T q ∨ q = a) vs xs → ¬ Avd σ' η' T a → D.rt (.ref a) H'
abbrev tSt (K : Fg) (mg : Str → Option Value) (W : WX) (m : MX Fl) : TS := fun D σ H => tG K mg W (PSt K mg) m σ H D
def DS (X : Cx) (W : WX) (st : Stmt) (m : MX Fl) : Prop := PS X st (tSt X.K X.mg W m)
def DSs (X : Cx) (W : WX) (st : List Stmt) (m : MX Fl) : Prop := PSs X st (tSt X.K X.mg W m)
section
variable {K : Fg} {mg : Str → Option Value} {W : WX} {σ σ1 σ' : St} {H H1 H2 H' : Hp} {η η1 η2 η' : EnvD} {T : Addr → Prop} {α β γ δ : Type}
theorem PSt.later {D : Ends} {fl : Fl} (s : StepS σ H η σ1 H1 η1) (p : PSt K mg σ H η T D fl η') : PSt K mg σ1 H1 η1 T D fl η' := by
  cases fl with
  | nx => exact fun σ' H' s' r => p σ' H' (s.trans s') r
  | bk => exact fun σ' H' s' r => p σ' H' (s.trans s') r
  | ct => exact fun σ' H' s' r => p σ' H' (s.trans s') r
  | rt r =>
    cases r with
    | d x => exact fun v σ' H' s' r q => p v σ' H' (s.trans s') r q
    | l xs => exact fun a vs σ' H' s' f => p a vs σ' H' (s.trans s') (f.elim (s.leF a) fun z => .inr (s.tr a z))
theorem Nx.laterS {D : Ends} {out : Option (R Fl × EnvD)} (s : StepS σ H η σ1 H1 η1) (h : Nx K mg W (PSt K mg) σ H η T D out) : Nx K mg W (PSt K mg) σ1 H1 η1 T D out := by
  obtain ⟨o, η', e, p⟩ := h
  refine ⟨o, η', e, ?_⟩
  cases o with
  | ok y => exact PSt.later s p
  | exc nm y => exact fun cls dd σ' H' s' r q => p cls dd σ' H' (s.trans s') r q
end
section
variable {X : Cx} {W : WX} {a b : Expr} {ma mb me : MX PyData} {ml : MX (List PyData)} {pos p : Pos} {e : Expr} {es : List Expr} {st : Stmt} {rest : List Stmt} {m k : MX Fl} {i j : Nat} {x : Str}
def mSeq (m k : MX Fl) : MX Fl := mBind m fun fl => match fl with
  | .nx => k
  | .bk => mPure .bk
  | .ct => mPure .ct
  | .rt r => mPure (.rt r)
theorem dss_nil : DSs X W [] (mPure .nx) := PSs.imp pss_nil fun D σ H ⟨η, T, r0, n0⟩ => n0.pure σ H StepS.refl r0
theorem dss_cons (h1 : DS X W st m) (h2 : DSs X W rest k) : DSs X W (st :: rest) (mSeq m k) := by
  refine PSs.imp (pss_cons h1 h2) fun D σ H ⟨η, T, r0, n0⟩ => ⟨η, T, r0, n0.bind fun fl η1 e1 n1 => ?_⟩
  cases fl with
  | nx => exact fun σ' H' s r => ⟨η1, T, r, Nx.laterS s n1⟩
  | bk => exact n1.pure
  | ct => exact n1.pure
  | rt r =>
    have q := n1.pure
    cases r with
    | d x => exact q
    | l x => exact q
theorem dss_one (h1 : DS X W st m) : DSs X W [st] m := pss_one h1
theorem ds_pass : DS X W (.Pass pos) (mPure .nx) := PS.imp ps_pass fun D σ H ⟨η, T, r0, n0⟩ => n0.pure σ H StepS.refl r0
theorem ds_break : DS X W (.Break pos) (mPure .bk) := PS.imp ps_break fun D σ H ⟨η, T, r0, n0⟩ => n0.pure σ H StepS.refl r0
theorem ds_continue : DS X W (.Continue pos) (mPure .ct) := PS.imp ps_continue fun D σ H ⟨η, T, r0, n0⟩ => n0.pure σ H StepS.refl r0
theorem ds_doc {x j pos pos'} : DS X W (.Expr (.Constant (.str x) j pos) pos') (mPure .nx) := PS.imp ps_doc fun D σ H ⟨η, T, r0, n0⟩ => n0.pure σ H StepS.refl r0
theorem ds_never : DS X W st (fun _ => none) := PS.imp ps_never fun D σ H ⟨η, T, r0, o, η', e, _⟩ => by cases e
def mDrop (m : MX PyData) : MX Fl := mBind m fun _ => mPure .nx
theorem ds_expr (he : DE X W e me) (hs : swapsWith e none pos.line X.env = pure false := by rfl) : DS X W (.Expr e pos) (mDrop me) :=
  PS.imp (ps_expr he hs) fun D σ H ⟨η, T, r0, n0⟩ => ⟨η, T, r0, n0.bind fun x η1 e1 n1 v H1 s1 r1 q1 => n1.pure σ H1 s1 r1⟩
def mRet (m : MX PyData) : MX Fl := mBind m fun x => mPure (.rt (.d x))
def mRetL (m : MX (List PyData)) : MX Fl := mBind m fun x => mPure (.rt (.l x))
theorem ds_ret (he : DE X W e me) : DS X W (.Return (some e) pos) (mRet me) :=
  PS.imp (ps_ret he) fun D σ H ⟨η, T, r0, n0⟩ => ⟨η, T, r0, n0.bind fun x η1 e1 n1 v H1 s1 r1 q1 => n1.pure v σ H1 s1 r1 q1⟩
theorem ds_retL (he : DF X W e ml) : DS X W (.Return (some e) pos) (mRetL ml) :=
  PS.imp (ps_ret he) fun D σ H ⟨η, T, r0, n0⟩ => ⟨η, T, r0, n0.bind fun x η1 e1 n1 a vs H1 s1 na ea r1 q1 no => n1.pure a vs σ H1 s1 (.inr na) ea r1 q1 no⟩
theorem ds_retN : DS X W (.Return none pos) (mPure (.rt (.d .none))) := PS.imp ps_retN fun D σ H ⟨η, T, r0, n0⟩ => n0.pure .non σ H StepS.refl r0 .non
/-- return of a name whose list nobody else holds -/
def mRetV (i : Nat) : MX Fl := fun η => match η[i]? with
  | some (some (.val d)) => some (.ok (.rt (.d d)), η)
  | some (some (.own false ds)) => some (.ok (.rt (.l ds)), η.set i none)
  | _ => none
theorem ds_retV {pos' : Pos} (h : PE X (.Name x pos) (tVar i)) : DS X W (.Return (some (.Name x pos)) pos') (mRetV i) := by
  refine PS.imp (ps_ret h) fun D σ H ⟨η, T, r0, o, η', e, p⟩ => ?_
  unfold mRetV at e
  split at e
  · rename_i d hd
    cases e
    obtain ⟨v, ev, q⟩ := r0.val i d hd
    exact ⟨v, ev, p v σ H StepS.refl r0 q⟩
  · rename_i ds hd
    cases e
    obtain ⟨a, vs, ea, e2, q, no⟩ := r0.own i false ds hd
    have own' : ∀ q, OwnAt σ (η.set i none) q → OwnAt σ η q ∧ q ≠ a := fun q z => by
      refine ⟨own_set (fun _ _ z => by cases z) z, fun w => ?_⟩
      subst w
      obtain ⟨j, b, ds', z1, z2⟩ := z
      rcases set_get z1 with ⟨_, e⟩ | ⟨ne, e⟩
      · cases e
      · exact ne (r0.inj i j false b ds ds' q hd e ea z2)
    have kA : ∀ q, Avd σ (η.set i none) (fun q => T q ∨ q = a) q → Avd σ η T q := fun q z => by
      rcases z with (z | z) | z
      · exact .inl z
      · subst z; exact .inr ⟨i, false, ds, hd, ea⟩
      · exact .inr (own' q z).1
    have r1 : Rp X.K X.mg σ H (η.set i none) T := r0.drop
    have r2 : Rp X.K X.mg σ H (η.set i none) (fun q => T q ∨ q = a) := by
      refine ⟨fun j d h' => ?_, fun j b' ds' h' => ?_, fun j nm d h' => ?_, r1.inj, fun q z => ?_, r1.len⟩
      · rcases set_get h' with ⟨_, e⟩ | ⟨_, e⟩
        · cases e
        · obtain ⟨v, e1, q1⟩ := r0.val j d e
          exact ⟨v, e1, Dq.less kA d v q1⟩
      · rcases set_get h' with ⟨_, e⟩ | ⟨nj, e⟩
        · cases e
        · obtain ⟨a2, vs2, e1, e2', q1, n1⟩ := r0.own j b' ds' e
          refine ⟨a2, vs2, e1, e2', DqAll.less kA ds' vs2 q1, fun z => z.elim n1 fun z => ?_⟩
          subst z
          exact nj (r0.inj i j false b' ds ds' a2 hd e ea e1)
      · rcases set_get h' with ⟨_, e⟩ | ⟨_, e⟩
        · cases e
        · obtain ⟨a2, e1, q1⟩ := r0.exc j nm d e
          exact ⟨a2, e1, q1.less kA⟩
      · rcases z with z | z
        · exact r0.tl q z
        · subst z; exact ⟨vs, e2⟩
    exact ⟨.ref a, ea, p a vs σ H (StepS.set fun _ _ z => by cases z) (.inl ⟨i, ds, hd, ea⟩) e2 r2 (DqAll.less kA ds vs q) fun z => z.elim no fun z => (own' a z).2 rfl⟩
  · cases e
def mIfS (c : MX Bool) (m k : MX Fl) : MX Fl := mBind c fun b => if b = true then m else k
theorem ds_if {c : Expr} {mc : MX Bool} {sa sb : List Stmt} (hc : DT X W c mc) (ha : DSs X W sa m) (hb : DSs X W sb k) : DS X W (.If c sa sb pos) (mIfS mc m k) := by
  refine PS.imp (ps_if hc ha hb) fun D σ H ⟨η, T, r0, n0⟩ => ⟨η, T, r0, n0.bind fun x η1 e1 n1 H1 s1 r1 => ?_⟩
  cases x with
  | true => rw [if_pos rfl]; exact ⟨η1, T, r1, Nx.laterS s1 n1⟩
  | false => rw [if_neg Bool.false_ne_true]; exact ⟨η1, T, r1, Nx.laterS s1 n1⟩

end
/-! ### targets -/
/-- a slot may be stored to unless it is a caller's list -/
def stO (i : Nat) (s : Slot) : EnvD → Option EnvD := fun η => match η[i]? with
  | some (some (.own true _)) => none
  | _ => some (η.set i (some s))
theorem stO_some {i : Nat} {s : Slot} {η η' : EnvD} (h : stO i s η = some η') : η' = η.set i (some s) ∧ ∀ ds : List PyData, η[i]? ≠ some (some (.own true ds)) := by
  unfold stO at h
  split at h
  · cases h
  · rename_i hn
    exact ⟨(Option.some.inj h).symm, fun ds z => hn ds z⟩
/-- a target's reading, by data: vs the slots that it stores to -/
def TGok (K : Fg) (mg : Str → Option Value) (g : TG) (vs : List Nat) (gm : PyData → EnvD → Option EnvD) : Prop :=
  ∀ (v : V) (d : PyData) (σ : St) (H : Hp) (η : EnvD) (T : Addr → Prop) (η' : EnvD) (Q : St → Hp → Prop), Rp K mg σ H η T → Dq K H (Avd σ η T) v d → gm d η = some η' →
    (∀ σ', StepS σ H η σ' H η' → Rp K mg σ' H η' T → σ'.length = σ.length → (∀ j, j ∉ vs → σ'[j]? = σ[j]?) → Q σ' H) → g v σ H Q
def TGsOk (K : Fg) (mg : Str → Option Value) (g : TGs) (vs : List Nat) (gm : List PyData → EnvD → Option EnvD) : Prop :=
  ∀ (us : List V) (ds : List PyData) (σ : St) (H : Hp) (η : EnvD) (T : Addr → Prop) (η' : EnvD) (Q : St → Hp → Prop), Rp K mg σ H η T → DqAll K H (Avd σ η T) us ds → gm ds η = some η' →
    (∀ σ', StepS σ H η σ' H η' → Rp K mg σ' H η' T → σ'.length = σ.length → (∀ j, j ∉ vs → σ'[j]? = σ[j]?) → Q σ' H) → g us σ H Q
def gV (i : Nat) (d : PyData) : EnvD → Option EnvD := stO i (.val d)
def gNilD : List PyData → EnvD → Option EnvD := fun ds η => match ds with
  | [] => some η
  | _ :: _ => none
def gConsD (g : PyData → EnvD → Option EnvD) (gs : List PyData → EnvD → Option EnvD) : List PyData → EnvD → Option EnvD := fun ds η => match ds with
  | [] => none
  | d :: ds => (g d η).bind (gs ds)
def gTupD (n : Nat) (gs : List PyData → EnvD → Option EnvD) : PyData → EnvD → Option EnvD := fun d η => match d with
  | .tuple ds => if ds.length = n then gs ds η else none
  | _ => none
section
variable {K : Fg} {mg : Str → Option Value}
theorem gok_name {i : Nat} : TGok K mg (gName i) [i] (gV i) := fun v d σ H η T η' Q r q e k => by
  obtain ⟨rfl, ni⟩ := stO_some e
  obtain ⟨r1, s1⟩ := r.store (i := i) (v := v) (d := d) q
  exact k _ (s1 ni) r1 (by simp) fun j hj => List.getElem?_set_ne (fun z => hj (by simp [z]))
theorem gok_nil : TGsOk K mg gNil [] gNilD := fun us ds σ H η T η' Q r q e k => by
  cases q with
  | nil => cases e; exact ⟨rfl, k σ StepS.refl r rfl fun _ _ => rfl⟩
  | cons _ _ => cases e
theorem gok_cons {vs ws : List Nat} {g1 : TG} {g2 : TGs} {g : PyData → EnvD → Option EnvD} {gs : List PyData → EnvD → Option EnvD} (f1 : TGok K mg g1 vs g) (f2 : TGsOk K mg g2 ws gs) : TGsOk K mg (gCons g1 g2) (vs ++ ws) (gConsD g gs) :=
  fun us ds σ H η T η' Q r q e k => by
  cases q with
  | nil => cases e
  | cons q1 q2 =>
    unfold gConsD at e
    obtain ⟨η1, e1, e2⟩ := Option.bind_eq_some_iff.mp e
    refine ⟨_, _, rfl, f1 _ _ σ H η T η1 _ r q1 e1 fun σ1 s1 r1 l1 k1 => ?_⟩
    exact f2 _ _ σ1 H η1 T η' Q r1 (r.olds s1 q2) e2 fun σ2 s2 r2 l2 k2 => k σ2 (s1.trans s2) r2 (l2.trans l1) fun j hj => (k2 j fun z => hj (List.mem_append_right _ z)).trans (k1 j fun z => hj (List.mem_append_left _ z))
theorem gok_tup {n : Nat} {vs : List Nat} {g : TGs} {gs : List PyData → EnvD → Option EnvD} (f : TGsOk K mg g vs gs) : TGok K mg (gTup K n g) vs (gTupD n gs) := fun v d σ H η T η' Q r q e k => by
  unfold gTupD at e
  cases q with
  | tup hs all =>
    simp only at e
    split at e
    · rename_i hl
      exact ⟨_, _, rfl, hs, by rw [all.length]; exact hl, f _ _ σ H η T η' Q r all e k⟩
    · cases e
  | _ => cases e
end

/-! ### assignments -/
def mAsg (me : MX PyData) (gm : PyData → EnvD → Option EnvD) : MX Fl := mBind me fun x => fun η => match gm x η with
  | some η' => some (.ok .nx, η')
  | none => none
def mAsgL (ml : MX (List PyData)) (i : Nat) : MX Fl := mBind ml fun xs => fun η => match stO i (.own false xs) η with
  | some η' => some (.ok .nx, η')
  | none => none
section
variable {X : Cx} {W : WX} {a b : Expr} {ma mb me : MX PyData} {ml : MX (List PyData)} {pos p : Pos} {e : Expr} {es : List Expr} {st : Stmt} {rest : List Stmt} {m k : MX Fl} {i j : Nat} {x : Str}
theorem asg_imp {gm : PyData → EnvD → Option EnvD} {g : TG} {vs : List Nat} {te : TE} (hg : TGok X.K X.mg g vs gm) (ht : ∀ σ H Q, tD X.K X.mg W me σ H Q → te σ H Q) :
    ∀ D σ H, tSt X.K X.mg W (mAsg me gm) D σ H → tAsg te g D σ H := fun D σ H ⟨η, T, r0, n0⟩ => ht σ H _ ⟨η, T, r0, n0.bind fun x η1 e1 n1 v H1 s1 r1 q1 => by
  obtain ⟨o, η', eo, p⟩ := n1
  split at eo
  · rename_i η2 hη
    cases eo
    exact hg v x σ H1 η1 T η' D.nx r1 q1 hη fun σ' s2 r2 _ _ => p σ' H1 (s1.trans s2) r2
  · cases eo⟩
theorem asgL_imp {te : TE} (ht : ∀ σ H Q, tF X.K X.mg W ml σ H Q → te σ H Q) : ∀ D σ H, tSt X.K X.mg W (mAsgL ml i) D σ H → tAsg te (gName i) D σ H := fun D σ H ⟨η, T, r0, n0⟩ => ht σ H _ ⟨η, T, r0, n0.bind fun xs η1 e1 n1 a vs H1 s1 na ea r1 q1 no => by
  obtain ⟨o, η', eo, p⟩ := n1
  split at eo
  · rename_i η2 hη
    cases eo
    obtain ⟨rfl, ni⟩ := stO_some hη
    obtain ⟨r2, own, free, inn⟩ := r1.storeL (i := i) ea q1 no
    refine p _ H1 ⟨s1.tr, s1.keep, fun q z => ?_, fun q z => ?_, fun j ds z => ?_⟩ r2
    · rcases own q z with z | z
      · exact s1.le q z
      · subst z; exact .inr na
    · rcases free q z with z | z
      · exact s1.leF q z
      · subst z; exact .inr na
    · obtain ⟨⟨d1, z1⟩, e1⟩ := inn ni j ds z
      obtain ⟨z2, e2⟩ := s1.inn j d1 z1
      exact ⟨z2, e1.trans e2⟩
  · cases eo⟩
/-- name = e -/
theorem ds_set {pos' : Pos} (hN : X.N.Nodup) (hi : X.N[i]? = some x) (hx : Loc X.env.scope x) (he : DE X W e me) (hs : swapsWith e (some (.Name x pos')) pos.line X.env = pure false := by rfl) (hf : X.fn x = true ∨ X.env.scope.names.lookup x = some .local := by first | exact .inl rfl | exact .inr rfl | assumption) :
    DS X W (.Assign [.Name x pos'] e pos) (mAsg me (gV i)) := by
  exact PS.imp (ps_set hN hi hx he hs hf) (asg_imp gok_name fun _ _ _ h => h)
theorem ds_setL {pos' : Pos} (hN : X.N.Nodup) (hi : X.N[i]? = some x) (hx : Loc X.env.scope x) (he : DF X W e ml) (hs : swapsWith e (some (.Name x pos')) pos.line X.env = pure false := by rfl) (hf : X.fn x = true ∨ X.env.scope.names.lookup x = some .local := by first | exact .inl rfl | exact .inr rfl | assumption) :
    DS X W (.Assign [.Name x pos'] e pos) (mAsgL ml i) := PS.imp (ps_set hN hi hx he hs hf) (asgL_imp fun _ _ _ h => h)
/-- target = e -/
theorem ds_asg {tg : Expr} {g : TG} {vs : List Nat} {gm : PyData → EnvD → Option EnvD} (hp : PG X tg g) (hg : TGok X.K X.mg g vs gm) (he : DE X W e me) (hs : swapsWithSole [tg] e pos.line X.env = pure false := by rfl) (hw : swappedStores [tg] e X.env = pure none := by rfl)
    (h1 : (assignEach [tg] X.env).map (·.2) = [assign tg X.env] := by rfl) : DS X W (.Assign [tg] e pos) (mAsg me gm) := PS.imp (ps_asg he hp hs hw h1) (asg_imp hg fun _ _ _ h => h)
end
end L2.DL
end
section
set_option Elab.async false
set_option linter.all false
set_option maxRecDepth 100000
namespace L2.DL
open PySem PySem.Spec PyProof.Rows
set_option autoImplicit false

/-! ### a def by its body -/
def okA : Option Slot → Bool
  | some (.val _) => true
  | some (.own true _) => true
  | _ => false
def maskS : Option Slot → Option Slot
  | some (.own true ds) => some (.own true ds)
  | _ => none
def maskE (n : Nat) (η : EnvD) : EnvD := (η.take n).map maskS
def runF (N n : Nat) (m : MX Fl) : FS := fun args => if args.length = n ∧ args.all okA = true ∧ n ≤ N then
    match m (args ++ List.replicate (N - n) none) with
    | some (.ok (.rt r), η') => some (.ok r, maskE n η')
    | some (.ok .nx, η') => some (.ok (.d .none), maskE n η')
    | some (.exc nm d, η') => some (.exc nm d, maskE n η')
    | _ => none
  else none
section
variable {K : Fg} {mg : Str → Option Value} {σ σ' : St} {H H' : Hp} {η η' : EnvD} {T : Addr → Prop} {args : EnvD} {vs : List V} {N n : Nat}
theorem app_get {α : Type} {l r : List α} {i : Nat} {x : α} (h : (l ++ r)[i]? = some x) : l[i]? = some x ∨ (l.length ≤ i ∧ r[i - l.length]? = some x) := by
  by_cases hi : i < l.length
  · rw [List.getElem?_append_left hi] at h; exact .inl h
  · rw [List.getElem?_append_right (by omega)] at h; exact .inr ⟨by omega, h⟩
theorem pad_get {k i : Nat} {s : Slot} (h : (args ++ List.replicate k none)[i]? = some (some s)) : args[i]? = some (some s) := by
  rcases app_get h with h | ⟨_, h⟩
  · exact h
  · rw [List.getElem?_replicate] at h
    split at h <;> cases h
theorem padv_get {k i : Nat} {v : V} (h : (vs.map some ++ List.replicate k none)[i]? = some (some v)) : (vs.map some)[i]? = some (some v) := by
  rcases app_get h with h | ⟨_, h⟩
  · exact h
  · rw [List.getElem?_replicate] at h
    split at h <;> cases h
theorem pad_left {α : Type} {l r : List α} {i : Nat} {x : α} (h : l[i]? = some x) : (l ++ r)[i]? = some x := by
  rw [List.getElem?_append_left (List.getElem?_eq_some_iff.mp h).1]; exact h
theorem own_pad {k l : Nat} {q : Addr} : OwnAt (vs.map some ++ List.replicate k none) (args ++ List.replicate l none) q ↔ OwnAt (vs.map some) args q := by
  constructor
  · rintro ⟨i, b, ds, e1, e2⟩
    exact ⟨i, b, ds, pad_get e1, padv_get e2⟩
  · rintro ⟨i, b, ds, e1, e2⟩
    exact ⟨i, b, ds, pad_left e1, pad_left e2⟩
theorem Rp.pad (r : Rp K mg (vs.map some) H args T) (hl : args.length = vs.length) (k : Nat) : Rp K mg (vs.map some ++ List.replicate k none) H (args ++ List.replicate k none) T := by
  have kA : ∀ q, Avd (vs.map some ++ List.replicate k none) (args ++ List.replicate k none) T q → Avd (vs.map some) args T q := fun q z => z.imp id own_pad.mp
  refine ⟨fun i d h => ?_, fun i b ds h => ?_, fun i nm d h => ?_, fun i j b b' d1 d2 a h1 h2 h3 h4 => r.inj i j b b' d1 d2 a (pad_get h1) (pad_get h2) (padv_get h3) (padv_get h4), r.tl, by simp [hl]⟩
  · obtain ⟨v, e, q⟩ := r.val i d (pad_get h)
    exact ⟨v, pad_left e, Dq.less kA d v q⟩
  · obtain ⟨a, ws, e, e2, q, n⟩ := r.own i b ds (pad_get h)
    exact ⟨a, ws, pad_left e, e2, DqAll.less kA ds ws q, n⟩
  · obtain ⟨a, e, q⟩ := r.exc i nm d (pad_get h)
    exact ⟨a, pad_left e, q.less kA⟩
theorem mask_get {i : Nat} {s : Slot} (h : (maskE n η)[i]? = some (some s)) : i < n ∧ ∃ ds, s = .own true ds ∧ η[i]? = some (some (.own true ds)) := by
  unfold maskE at h
  rw [List.getElem?_map] at h
  cases e : (η.take n)[i]? with
  | none => rw [e] at h; cases h
  | some o =>
    rw [e] at h
    have hi := (List.getElem?_eq_some_iff.mp e).1
    rw [List.length_take] at hi
    rw [List.getElem?_take_of_lt (by omega)] at e
    have h' : maskS o = some s := Option.some.inj h
    unfold maskS at h'
    split at h'
    · cases h'
      exact ⟨by omega, _, rfl, e⟩
    · cases h'
/-- behind the body, as the caller sees it -/
theorem mask_ok {k : Nat} (hl : vs.length = n) (ha : args.all okA = true) (hla : args.length = n) (s : StepS (vs.map some ++ List.replicate k none) H (args ++ List.replicate k none) σ' H' η') (r : Rp K mg σ' H' η' T) :
    StepS (vs.map some) H args (vs.map some) H' (maskE n η') ∧ Rp K mg (vs.map some) H' (maskE n η') T ∧ ∀ q, Avd (vs.map some) (maskE n η') T q → Avd σ' η' T q := by
  have slot : ∀ {i : Nat} {s : Slot}, (maskE n η')[i]? = some (some s) → ∃ ds, s = .own true ds ∧ η'[i]? = some (some (.own true ds)) ∧ (∃ d0, args[i]? = some (some (.own true d0))) ∧ σ'[i]? = (vs.map some)[i]? := fun {i s'} h => by
    obtain ⟨hi, ds, rfl, e⟩ := mask_get h
    obtain ⟨⟨d0, e0⟩, e1⟩ := s.inn i ds e
    refine ⟨ds, rfl, e, ⟨d0, pad_get e0⟩, ?_⟩
    rw [e1, List.getElem?_append_left (by simp; omega)]
  have own : ∀ q, OwnAt (vs.map some) (maskE n η') q → OwnAt σ' η' q := fun q ⟨i, b, ds, e1, e2⟩ => by
    obtain ⟨ds', e, e3, _, e4⟩ := slot e1
    cases e
    exact ⟨i, true, ds, e3, by rw [e4]; exact e2⟩
  have kA : ∀ q, Avd (vs.map some) (maskE n η') T q → Avd σ' η' T q := fun q z => z.imp id (own q)
  refine ⟨⟨s.tr, fun q o h no => s.keep q o h fun z => no (own_pad.mp z), fun q z => ?_, fun q z => ?_, fun i ds z => ?_⟩, ⟨fun i d h => ?_, fun i b ds h => ?_, fun i nm d h => ?_, fun i j b b' d1 d2 a h1 h2 h3 h4 => ?_, r.tl, ?_⟩, kA⟩
  · rcases s.le q (own q z) with z | z
    · exact .inl (own_pad.mp z)
    · exact .inr z
  · obtain ⟨i, ds, e1, e2⟩ := z
    obtain ⟨ds', e, _⟩ := slot e1
    cases e
  · obtain ⟨ds', e, _, h, _⟩ := slot z
    exact ⟨h, rfl⟩
  · obtain ⟨ds', e, _⟩ := slot h
    cases e
  · obtain ⟨ds', e, e3, _, e4⟩ := slot h
    cases e
    obtain ⟨a, ws, h1, h2, h3, h4⟩ := r.own i true _ e3
    exact ⟨a, ws, by rw [← e4]; exact h1, h2, DqAll.less kA _ _ h3, h4⟩
  · obtain ⟨ds', e, _⟩ := slot h
    cases e
  · obtain ⟨_, e, e3, _, e4⟩ := slot h1
    obtain ⟨_, e', e5, _, e6⟩ := slot h2
    exact r.inj i j true true _ _ a e3 e5 (by rw [e4]; exact h3) (by rw [e6]; exact h4)
  · unfold maskE
    simp
    omega
theorem not_free {k : Nat} (ha : args.all okA = true) {q : Addr} : ¬ FreeAt (vs.map some ++ List.replicate k none) (args ++ List.replicate k none) q := fun ⟨i, ds, e1, e2⟩ => by
  have z := List.all_eq_true.mp ha _ (List.mem_of_getElem? (pad_get e1))
  cases z
end
/-- THE RULE for a def: its body as a plain program -/
theorem fn_ok {P : Program} {w : World} {K : PySem.W.Frag} {mg : Str → Option Value} {base : Heap} {x qual : Str} {st : Stmt} {f : Addr} {fd : FuncData} {N ps : List Str} {k : Nat} {m : MX Fl} (F : Fun K x qual st f fd) (S : FnScope N ps (defScope st))
    (hbody : ∀ (cdv : Value) (A : Around) (outer : List Env) (s : Shared) (H : Hp) (E : XK), Room k (A.deeper (envOfC qual (defScope st) s.heap.objs.size f cdv)) →
      DSs (cxOf (L2.CX P w) P w K mg base N qual (defScope st) f cdv A outer s H E) (fun cls d _ H => E cls d H) (defBody st) m) : FnOk P w K mg base (L2.CX P w) (k + 1) f fd ps (spG K mg ps.length (runF N.length ps.length m)) := by
  have hpl : ps.length ≤ N.length := by have := congrArg List.length S.pre; rw [List.length_take] at this; omega
  refine F.okX S (fun vs H Q E h => h.1) (fun cdv A outer s H vs Q E hr h => ⟨_, hbody cdv A outer s H E hr, ?_⟩)
  obtain ⟨hl, args, T, r, o, ηo, e, p⟩ := h
  unfold runF at e
  split at e
  · rename_i hc
    obtain ⟨hla, hall, _⟩ := hc
    have hst : start N vs = vs.map some ++ List.replicate (N.length - ps.length) none := by unfold start; rw [hl]
    refine ⟨args ++ List.replicate (N.length - ps.length) none, T, by rw [hst]; exact r.pad (by rw [hla, hl]) _, ?_⟩
    rw [hst]
    split at e
    · rename_i rv η' em
      cases e
      refine ⟨_, _, em, ?_⟩
      cases rv with
      | d y =>
        intro v σ' H' s' r' q
        obtain ⟨s2, r2, kA⟩ := mask_ok hl hall hla s' r'
        exact p v H' s2 r2 (Dq.less kA y v q)
      | l ys =>
        intro a ws σ' H' s' fr ea r' q no
        obtain ⟨s2, r2, kA⟩ := mask_ok hl hall hla s' r'
        obtain ⟨_, r3, kA3⟩ := mask_ok (T := T) hl hall hla s' (r'.lessT fun q z => .inl z)
        refine p a ws H' s2 (fr.elim (fun z => absurd z (not_free hall)) id) ea r2 (DqAll.less kA ys ws q) fun z => no (kA3 a z)
    · rename_i η' em
      cases e
      refine ⟨_, _, em, fun σ' H' s' r' => ?_⟩
      obtain ⟨s2, r2, kA⟩ := mask_ok hl hall hla s' r'
      exact p .non H' s2 r2 .non
    · rename_i nm d η' em
      cases e
      refine ⟨_, _, em, fun cls dd σ' H' s' r' q => ?_⟩
      obtain ⟨s2, r2, kA⟩ := mask_ok hl hall hla s' r'
      obtain ⟨C, a, v, h1, h2, h3, h4, h5⟩ := q
      exact p cls dd _ H' s2 r2 ⟨C, a, v, h1, h2, h3, h4, Dq.less kA d v h5⟩
    · cases e
  · cases e
end L2.DL
end
section
set_option Elab.async false
set_option linter.all false
set_option maxRecDepth 100000
namespace L2.DL
open PySem PySem.Spec PyProof.Rows
set_option autoImplicit false

/-! ### what is walked -/
/-- at H an iterator that yields these data -/
def ItOk (K : Fg) (J : It) (items : List PyData) (O : Addr → Prop) (H : Hp) : Prop :=
  ∀ H1 O1, Kp O O1 H H1 → Lists H1 O1 → (∀ i, i < items.length → J.go i H1) ∧ (∀ i, items.length ≤ i → J.stop i H1) ∧
    ∀ i x H2, i < items.length → J.yld i H1 x H2 → More H1 H2 ∧ ∃ d, items[i]? = some d ∧ Dq K H2 O1 x d
def PIt (K : Fg) (mg : Str → Option Value) : Ps (List PyData) (It → Hp → Prop) := fun σ H η T R items η' => ∀ J H', StepS σ H η σ H' η' → Rp K mg σ H' η' T → ItOk K J items (Avd σ η' T) H' → R J H'
theorem PIt.later {K : Fg} {mg : Str → Option Value} : Later (PIt K mg) := fun σ H η T Q x η' H1 η1 s p v H' s' r q => p v H' (s.trans s') r q
def DI (X : Cx) (W : WX) (tg iter : Expr) (mi : MX (List PyData)) : Prop := PI X tg iter (fun σ H R => tG X.K X.mg W (PIt X.K X.mg) mi σ H R)
theorem PI.imp {X : Cx} {tg e : Expr} {t t' : TI} (h : PI X tg e t) (i : ∀ σ H Q, t' σ H Q → t σ H Q) : PI X tg e t' := ⟨fun pins s σ H Q I hw => h.run pins s σ H Q I (i σ H Q hw)⟩
theorem DqAll.lt {K : Fg} {H : Hp} {O : Addr → Prop} {vs : List V} {ds : List PyData} (q : DqAll K H O vs ds) {i : Nat} (h : i < ds.length) : ∃ v, vs[i]? = some v := by
  have := q.length
  exact ⟨vs[i]'(by omega), List.getElem?_eq_getElem (by omega)⟩
theorem SqL.fun1 {K : Fg} {H : Hp} {a : Addr} {xs ys : List V} (r : Rd H a (.lst xs)) (h : Rd H a (.lst ys)) : ys = xs := by
  rcases r with r | ⟨o, r⟩
  · rcases h with h | ⟨o', h⟩
    · rw [r] at h; cases h; rfl
    · rw [r] at h; cases h
  · rcases h with h | ⟨o', h⟩
    · rw [r] at h; cases h
    · rw [r] at h; cases h; rfl
theorem SqT.fun1 {K : Fg} {H : Hp} {a : Addr} {xs ys : List V} (r : Rd H a (.tup xs)) (h : Rd H a (.tup ys)) : ys = xs := by
  rcases r with r | ⟨o, r⟩
  · rcases h with h | ⟨o', h⟩
    · rw [r] at h; cases h; rfl
    · rw [r] at h; cases h
  · rcases h with h | ⟨o', h⟩
    · rw [r] at h; cases h
    · rw [r] at h; cases h; rfl
/-- a list, a tuple that is walked: what stands there at any later time -/
def Src (K : Fg) (H : Hp) (O : Addr → Prop) (a : Addr) (t : Bool) (vs : List V) (ds : List PyData) : Prop := (if t = true then SqT K H a vs else ¬ O a ∧ Rd H a (.lst vs)) ∧ DqAll K H O vs ds
theorem Src.keep {K : Fg} {H H1 : Hp} {O O1 : Addr → Prop} {a : Addr} {t : Bool} {vs : List V} {ds : List PyData} (k : Kp O O1 H H1) (s : Src K H O a t vs ds) : Src K H1 O1 a t vs ds := by
  refine ⟨?_, DqAll.keep k ds vs s.2⟩
  have h := s.1
  cases t with
  | true => exact k.tup (show SqT K H a vs from h)
  | false =>
    have h : ¬ O a ∧ Rd H a (.lst vs) := h
    exact (show ¬ O1 a ∧ Rd H1 a (.lst vs) from ⟨(k.rd h.1 h.2).2, (k.rd h.1 h.2).1⟩)
theorem it_list {K : Fg} {H : Hp} {O : Addr → Prop} {a : Addr} {vs : List V} {ds : List PyData} (s : Src K H O a false vs ds) : ItOk K (Itl K a) ds O H := fun H1 O1 k l1 => by
  obtain ⟨h, q⟩ := s.keep k
  have h : ¬ O1 a ∧ Rd H1 a (.lst vs) := h
  refine ⟨fun i hi => ?_, fun i hi => ⟨vs, .inl h.2, by rw [q.length]; exact hi⟩, fun i x H2 hi y => ?_⟩
  · obtain ⟨v, e⟩ := q.lt hi
    exact ⟨vs, v, .inl h.2, e⟩
  · obtain ⟨rfl, y⟩ := y
    obtain ⟨d, e, qd⟩ := q.get' (y vs (.inl h.2))
    exact ⟨More.refl, d, e, qd⟩
theorem it_tup {K : Fg} {H : Hp} {O : Addr → Prop} {a : Addr} {vs : List V} {ds : List PyData} (s : Src K H O a true vs ds) : ItOk K (Itt K a) ds O H := fun H1 O1 k l1 => by
  obtain ⟨h, q⟩ := s.keep k
  have h : SqT K H1 a vs := h
  refine ⟨fun i hi => ?_, fun i hi => ⟨vs, h, by rw [q.length]; exact hi⟩, fun i x H2 hi y => ?_⟩
  · obtain ⟨v, e⟩ := q.lt hi
    exact ⟨vs, v, h, e⟩
  · obtain ⟨rfl, y⟩ := y
    obtain ⟨d, e, qd⟩ := q.get' (y vs h)
    exact ⟨More.refl, d, e, qd⟩
theorem PI.or {X : Cx} {tg e : Expr} {t t' : TI} (h : PI X tg e t) (h' : PI X tg e t') : PI X tg e (fun σ H R => t σ H R ∨ t' σ H R) := ⟨fun pins s σ H Q I hw => hw.elim (h.run pins s σ H Q I) (h'.run pins s σ H Q I)⟩
def itemsD : PyData → Option (List PyData)
  | .list ds => some ds
  | .tuple ds => some ds
  | _ => none
def mIter (m : MX PyData) : MX (List PyData) := mBind m fun x => mLift (itemsD x)
section
variable {X : Cx} {W : WX} {tg e e2 : Expr} {me : MX PyData} {ml : MX (List PyData)} {p pos tpos : Pos} {elts : List Expr} {kk : Nat}
/-- over a list or a tuple -/
theorem di_val (he : DE X W e me) : DI X W tg e (mIter me) := by
  refine PI.imp (PI.or (pi_list he) (pi_tup he)) fun σ H R ⟨η, T, r0, n0⟩ => ?_
  cases em : me η with
  | none =>
    obtain ⟨o, η', eo, _⟩ := n0
    unfold mIter mBind at eo
    rw [em] at eo; cases eo
  | some w =>
    obtain ⟨w, η1⟩ := w
    cases w with
    | exc nm d => exact .inl ⟨η, T, r0, n0.bind fun x η1 e1 n1 => by rw [em] at e1; cases e1⟩
    | ok x =>
      cases x with
      | list ds =>
        refine .inl ⟨η, T, r0, n0.bind fun x η1 e1 n1 v H1 s1 r1 q1 => ?_⟩
        rw [em] at e1; cases e1
        obtain ⟨z, ez, p⟩ := n1.lift
        cases ez
        cases q1 with
        | lst no r all => exact ⟨_, rfl, ⟨_, .inl r⟩, p _ H1 s1 r1 (it_list ⟨⟨no, r⟩, all⟩)⟩
      | tuple ds =>
        refine .inr ⟨η, T, r0, n0.bind fun x η1 e1 n1 v H1 s1 r1 q1 => ?_⟩
        rw [em] at e1; cases e1
        obtain ⟨z, ez, p⟩ := n1.lift
        cases ez
        cases q1 with
        | tup r all => exact ⟨_, rfl, ⟨_, r⟩, p _ H1 s1 r1 (it_tup ⟨r, all⟩)⟩
      | _ =>
        obtain ⟨o, η', eo, _⟩ := n0
        unfold mIter mBind at eo
        rw [em] at eo; cases eo
def rngL (lo : Int) (n : Nat) : List PyData := (List.range n).map fun (i : Nat) => .int (lo + (i : Int))
theorem it_rng {K : Fg} {H : Hp} {O : Addr → Prop} {lo : Int} {n : Nat} : ItOk K (Itr lo n) (rngL lo n) O H := fun H1 O1 k l1 => by
  have hl : (rngL lo n).length = n := by unfold rngL; simp
  refine ⟨fun i hi => by rw [hl] at hi; exact hi, fun i hi => by rw [hl] at hi; exact hi, fun i x H2 hi y => ?_⟩
  rw [hl] at hi
  obtain ⟨rfl, rfl⟩ := y
  refine ⟨More.refl, .int (lo + i), ?_, .int _⟩
  unfold rngL
  rw [List.getElem?_map, List.getElem?_range hi]
  rfl
def okR (i : Int) : Prop := -(2 ^ 62) ≤ i ∧ i < 2 ^ 62
instance (i : Int) : Decidable (okR i) := by unfold okR; infer_instance
def rangeD : List PyData → Option (List PyData)
  | [.int j] => if okR j then some (rngL 0 j.toNat) else none
  | [.int i, .int j] => if okR i ∧ okR j then some (rngL i (j - i).toNat) else none
  | _ => none
def gIt (g : List PyData → Option (List PyData)) (ml : MX (List PyData)) : MX (List PyData) := mBind ml fun xs => mLift (g xs)
theorem di_range1 {a : Expr} (hm : X.mg "range" = none) (ha : DA X W [a] ml) (hl : ∀ η xs η1, ml η = some (.ok xs, η1) → xs.length = 1) (hg : Gl X "range" := by rfl) (hs : starEach [a] X.env = [(false, eval a X.env)] := by rfl) : DI X W tg (.Call (.Name "range" p) [a] [] pos) (gIt rangeD ml) := by
  refine PI.imp (pi_range1 hg hm ha hs) fun σ H R ⟨η, T, r0, n0⟩ => ⟨η, T, r0, n0.bind fun x η1 e1 n1 vs H1 s1 r1 q1 => ?_⟩
  obtain ⟨z, ez, p⟩ := n1.lift
  have l1 := hl η x η1 e1
  match x, l1, q1, ez with
  | [d], _, .cons q .nil, ez =>
    cases q with
    | int j =>
      simp only [rangeD] at ez
      split at ez
      · rename_i h
        cases ez
        exact ⟨j, rfl, h.1, h.2, p _ H1 s1 r1 it_rng⟩
      · cases ez
    | _ => cases ez
theorem di_range2 {a b : Expr} (hm : X.mg "range" = none) (ha : DA X W [a, b] ml) (hl : ∀ η xs η1, ml η = some (.ok xs, η1) → xs.length = 2) (hg : Gl X "range" := by rfl) (hs : starEach [a, b] X.env = [(false, eval a X.env), (false, eval b X.env)] := by rfl) (hs2 : starEach [b] X.env = [(false, eval b X.env)] := by rfl) : DI X W tg (.Call (.Name "range" p) [a, b] [] pos) (gIt rangeD ml) := by
  refine PI.imp (pi_range2 hg hm ha hs hs2) fun σ H R ⟨η, T, r0, n0⟩ => ⟨η, T, r0, n0.bind fun x η1 e1 n1 vs H1 s1 r1 q1 => ?_⟩
  obtain ⟨z, ez, p⟩ := n1.lift
  have l1 := hl η x η1 e1
  match x, l1, q1, ez with
  | [d, d2], _, .cons q (.cons q2 .nil), ez =>
    cases q with
    | int i =>
      cases q2 with
      | int j =>
        simp only [rangeD] at ez
        split at ez
        · rename_i h
          cases ez
          exact ⟨i, j, rfl, ⟨h.1.1, h.1.2, h.2.1, h.2.2⟩, p _ H1 s1 r1 it_rng⟩
        · cases ez
      | _ => cases ez
    | _ => cases ez
/-- the pairs of enumerate, of zip -/
def enumD : List PyData → Option (List PyData)
  | [.list ds] => some ((List.range ds.length).map fun (i : Nat) => .tuple [.int (i : Nat), ds.getD i .none])
  | _ => none
def zipD : List PyData → Option (List PyData)
  | [.list ds, .list es] => some ((ds.zip es).map fun p => .tuple [p.1, p.2])
  | [.tuple ds, .tuple es] => some ((ds.zip es).map fun p => .tuple [p.1, p.2])
  | _ => none
theorem di_enum {a : Expr} (hm : X.mg "enumerate" = none) (ha : DA X W [a] ml) (hl : ∀ η xs η1, ml η = some (.ok xs, η1) → xs.length = 1) (hg : Gl X "enumerate" := by rfl) (hs : starEach [a] X.env = [(false, eval a X.env)] := by rfl) : DI X W (.Tuple elts kk tpos) (.Call (.Name "enumerate" p) [a] [] pos) (gIt enumD ml) := by
  refine PI.imp (pi_enum hg hm ha hs) fun σ H R ⟨η, T, r0, n0⟩ => ⟨η, T, r0, n0.bind fun x η1 e1 n1 vs H1 s1 r1 q1 => ?_⟩
  obtain ⟨z, ez, p⟩ := n1.lift
  have l1 := hl η x η1 e1
  match x, l1, q1, ez with
  | [d], _, .cons q .nil, ez =>
    cases q with
    | @lst a ws ds no r all =>
      simp only [enumD] at ez
      cases ez
      refine ⟨a, ws, rfl, .inl r, p _ H1 s1 r1 fun H2 O1 k l2 => ?_⟩
      obtain ⟨h, q⟩ := Src.keep (t := false) k ⟨⟨no, r⟩, all⟩
      have h : ¬ O1 a ∧ Rd H2 a (.lst ws) := h
      have hlen : ((List.range ds.length).map fun (i : Nat) => PyData.tuple [.int (i : Nat), ds.getD i .none]).length = ds.length := by simp
      rw [hlen]
      refine ⟨fun i hi => ?_, fun i hi => ⟨ws, .inl h.2, by rw [q.length]; exact hi⟩, fun i x H3 hi y => ?_⟩
      · obtain ⟨v, e⟩ := q.lt hi
        exact ⟨ws, v, .inl h.2, e⟩
      · obtain ⟨T', y', rfl, hn, rfl, hy⟩ := y
        obtain ⟨d', e', qd⟩ := q.get' (hy ws (.inl h.2))
        have mo : More H2 (upd H2 T' (.tup [.int (i : Nat), y'])) := More.upd hn
        refine ⟨mo, .tuple [.int (i : Nat), d'], ?_, .tup (.inl (.inl upd_same)) (.cons (.int _) (.cons (qd.more l2 mo) .nil))⟩
        rw [List.getElem?_map, List.getElem?_range hi, Option.map_some, List.getD_eq_getElem?_getD, e']
        rfl
    | _ => cases ez
theorem di_zip {a b : Expr} (hm : X.mg "zip" = none) (ha : DA X W [a, b] ml) (hl : ∀ η xs η1, ml η = some (.ok xs, η1) → xs.length = 2) (hg : Gl X "zip" := by rfl) (hs : starEach [a, b] X.env = (false, eval a X.env) :: starEach [b] X.env := by rfl) (hpl : (backTo pos (starEach [b] X.env)).any (·.1) = false := by rfl) : DI X W (.Tuple elts kk tpos) (.Call (.Name "zip" p) [a, b] [] pos) (gIt zipD ml) := by
  refine PI.imp (RZ.pi_zipA hg hm ha hs hpl) fun σ H R ⟨η, T, r0, n0⟩ => ⟨η, T, r0, n0.bind fun x η1 e1 n1 vs H1 s1 r1 q1 => ?_⟩
  obtain ⟨z, ez, p⟩ := n1.lift
  have l1 := hl η x η1 e1
  match x, l1, q1, ez with
  | [d, d2], _, .cons q (.cons q2 .nil), ez =>
    cases q with
    | @lst a ws ds no r all =>
      cases q2 with
      | @lst b us es no2 rb all2 =>
        simp only [zipD] at ez
        cases ez
        refine ⟨a, b, ws, us, rfl, .inl ⟨.inl r, .inl rb, p _ H1 s1 r1 fun H2 O1 k l2 => ?_⟩⟩
        obtain ⟨h, q⟩ := Src.keep (t := false) k ⟨⟨no, r⟩, all⟩
        obtain ⟨h2, q2⟩ := Src.keep (t := false) k ⟨⟨no2, rb⟩, all2⟩
        have h : ¬ O1 a ∧ Rd H2 a (.lst ws) := h
        have h2 : ¬ O1 b ∧ Rd H2 b (.lst us) := h2
        have hlen : ((ds.zip es).map fun p => PyData.tuple [p.1, p.2]).length = min ds.length es.length := by simp
        rw [hlen]
        refine ⟨fun i hi => ?_, fun i hi => ⟨ws, us, .inl h.2, .inl h2.2, by rw [q.length, q2.length]; omega⟩, fun i x H3 hi y => ?_⟩
        · obtain ⟨v, e⟩ := q.lt (i := i) (by omega)
          obtain ⟨v2, e2⟩ := q2.lt (i := i) (by omega)
          exact ⟨ws, us, v, v2, .inl h.2, .inl h2.2, e, e2⟩
        · obtain ⟨T', y1, y2, rfl, hn, rfl, hy1, hy2⟩ := y
          obtain ⟨d', e', qd⟩ := q.get' (hy1 ws (.inl h.2))
          obtain ⟨d2', e2', qd2⟩ := q2.get' (hy2 us (.inl h2.2))
          have mo : More H2 (upd H2 T' (.tup [y1, y2])) := More.upd hn
          refine ⟨mo, .tuple [d', d2'], ?_, .tup (.inl (.inl upd_same)) (.cons (qd.more l2 mo) (.cons (qd2.more l2 mo) .nil))⟩
          rw [List.getElem?_map, List.getElem?_zip_eq_some (z := (d', d2')) |>.mpr ⟨e', e2'⟩]
          rfl
      | _ => cases ez
    | @tup a ws ds r all =>
      cases q2 with
      | @tup b us es rb all2 =>
        simp only [zipD] at ez
        cases ez
        refine ⟨a, b, ws, us, rfl, .inr ⟨r, rb, p _ H1 s1 r1 fun H2 O1 k l2 => ?_⟩⟩
        obtain ⟨h, q⟩ := Src.keep (t := true) k ⟨r, all⟩
        obtain ⟨h2, q2⟩ := Src.keep (t := true) k ⟨rb, all2⟩
        have h : SqT X.K H2 a ws := h
        have h2 : SqT X.K H2 b us := h2
        have hlen : ((ds.zip es).map fun p => PyData.tuple [p.1, p.2]).length = min ds.length es.length := by simp
        rw [hlen]
        refine ⟨fun i hi => ?_, fun i hi => ⟨ws, us, h, h2, by rw [q.length, q2.length]; omega⟩, fun i x H3 hi y => ?_⟩
        · obtain ⟨v, e⟩ := q.lt (i := i) (by omega)
          obtain ⟨v2, e2⟩ := q2.lt (i := i) (by omega)
          exact ⟨ws, us, v, v2, h, h2, e, e2⟩
        · obtain ⟨T', y1, y2, rfl, hn, rfl, hy1, hy2⟩ := y
          obtain ⟨d', e', qd⟩ := q.get' (hy1 ws h)
          obtain ⟨d2', e2', qd2⟩ := q2.get' (hy2 us h2)
          have mo : More H2 (upd H2 T' (.tup [y1, y2])) := More.upd hn
          refine ⟨mo, .tuple [d', d2'], ?_, .tup (.inl (.inl upd_same)) (.cons (qd.more l2 mo) (.cons (qd2.more l2 mo) .nil))⟩
          rw [List.getElem?_map, List.getElem?_zip_eq_some (z := (d', d2')) |>.mpr ⟨e', e2'⟩]
          rfl
      | _ => cases ez
    | _ => cases ez
end
end L2.DL
end
section
set_option Elab.async false
set_option linter.all false
set_option maxRecDepth 100000
namespace L2.DL
open PySem PySem.Spec PyProof.Rows
set_option autoImplicit false

/-! ### for -/
/-- slots forgotten at each turn's end -/
def forget : List Nat → EnvD → EnvD
  | [], η => η
  | i :: is, η => forget is (match η[i]? with
    | some (some (.own true _)) => η
    | _ => η.set i none)
section
variable {K : Fg} {mg : Str → Option Value} {σ : St} {H : Hp} {η : EnvD} {T : Addr → Prop}
theorem Rp.forget (is : List Nat) : ∀ {η : EnvD}, Rp K mg σ H η T → Rp K mg σ H (DL.forget is η) T ∧ StepS σ H η σ H (DL.forget is η) := by
  induction is with
  | nil => exact fun r => ⟨r, StepS.refl⟩
  | cons i is ih =>
    intro η r
    unfold DL.forget
    split
    · exact ih r
    · obtain ⟨a, b⟩ := ih (r.drop (i := i))
      exact ⟨a, (StepS.set (s := none) (fun _ _ z => by cases z)).trans b⟩
end
/-- the turns: what a turn does, one by one -/
def loopM (gm : PyData → EnvD → Option EnvD) (mb : MX Fl) (fg : List Nat) : List PyData → MX Fl
  | [] => mPure .nx
  | x :: xs => fun η => match gm x η with
    | none => none
    | some η1 => match mb η1 with
      | none => none
      | some (.exc n d, η2) => some (.exc n d, η2)
      | some (.ok .nx, η2) => loopM gm mb fg xs (forget fg η2)
      | some (.ok .ct, η2) => loopM gm mb fg xs (forget fg η2)
      | some (.ok .bk, η2) => some (.ok .nx, η2)
      | some (.ok (.rt r), η2) => some (.ok (.rt r), η2)
def mFor (mi : MX (List PyData)) (gm : PyData → EnvD → Option EnvD) (mb : MX Fl) (fg : List Nat) : MX Fl := mBind mi fun xs => loopM gm mb fg xs
section
variable {X : Cx} {W : WX} {tg iter : Expr} {mi : MX (List PyData)} {gm : PyData → EnvD → Option EnvD} {vs : List Nat} {mb : MX Fl} {body : List Stmt} {pos : Pos}
theorem ds_for {g : TG} (fg : List Nat) (hp : PassesOwn (model X.prog X.w) X.A X.env X.xe) (hc : X.calm = true) (hi : DI X W tg iter mi) (pg : PG X tg g) (fg' : TGok X.K X.mg g vs gm) (hb : DSs X W body mb)
    (hs : ∀ x, foldedSetIterable iter X.env x = pure x := by intro _; rfl) : DS X W (.For tg iter body [] pos) (mFor mi gm mb fg) := by
  refine PS.imp (ps_for hp hc hi pg hb hs) fun D σ H ⟨η, T, r0, n0⟩ => ⟨η, T, r0, n0.bind fun items η1 e1 n1 J H1 s1 r1 it => ?_⟩
  have n1' := Nx.laterS s1 n1
  -- the state at turn i
  refine ⟨fun i m σ2 H2 => m = items.length - i ∧ i ≤ items.length ∧ ∃ η2, StepS σ H1 η1 σ2 H2 η2 ∧ Rp X.K X.mg σ2 H2 η2 T ∧ Nx X.K X.mg W (PSt X.K X.mg) σ H1 η1 T D (loopM gm mb fg (items.drop i) η2),
    ⟨items.length, by simp, Nat.zero_le _, η1, StepS.refl, r1, n1'⟩, ?_⟩
  rintro i m σ2 H2 ⟨rfl, hi2, η2, s2, r2, n2⟩
  obtain ⟨go, stop, yld⟩ := it H2 (Avd σ2 η2 T) (r1.kp s2) r2.lists
  by_cases hlt : i < items.length
  · refine .inr ⟨go i hlt, fun σ3 H3 => ∃ η2, StepS σ H1 η1 σ3 H3 η2 ∧ Rp X.K X.mg σ3 H3 η2 T ∧ Nx X.K X.mg W (PSt X.K X.mg) σ H1 η1 T D (loopM gm mb fg (items.drop (i + 1)) η2), fun σ' H' h => ⟨items.length - (i + 1), by omega, rfl, hlt, h⟩, fun x H3 y => ?_⟩
    obtain ⟨mo, d, ed, qd⟩ := yld i x H3 hlt y
    have ecs : items.drop i = d :: items.drop (i + 1) := by
      rw [List.drop_eq_getElem_cons hlt]
      have := (List.getElem?_eq_some_iff.mp ed).2
      rw [this]
    rw [ecs] at n2
    obtain ⟨o, η', eo, p⟩ := n2
    simp only [loopM] at eo
    split at eo
    · cases eo
    · rename_i η3 e3
      have r3 : Rp X.K X.mg σ2 H3 η2 T := r2.more mo
      refine fg' x d σ2 H3 η2 T η3 _ r3 qd e3 fun σ3 s3 r4 _ _ => ?_
      have s4 : StepS σ H1 η1 σ3 H3 η3 := (s2.trans (StepS.more mo)).trans s3
      have again : ∀ {η4 : EnvD} {σ5 : St} {H5 : Hp}, loopM gm mb fg (items.drop (i + 1)) (forget fg η4) = some (o, η') → StepS σ3 H3 η3 σ5 H5 η4 → Rp X.K X.mg σ5 H5 η4 T →
          ∃ η2, StepS σ H1 η1 σ5 H5 η2 ∧ Rp X.K X.mg σ5 H5 η2 T ∧ Nx X.K X.mg W (PSt X.K X.mg) σ H1 η1 T D (loopM gm mb fg (items.drop (i + 1)) η2) := fun {η4 σ5 H5} e s r => by
        obtain ⟨r6, s6⟩ := Rp.forget fg r
        exact ⟨_, (s4.trans s).trans s6, r6, o, η', e, p⟩
      split at eo
      · cases eo
      · rename_i n d η4 e4
        cases eo
        exact ⟨η3, T, r4, .exc n d, η', e4, fun cls dd σ' H' s r q => p cls dd σ' H' (s4.trans s) r q⟩
      · rename_i η4 e4
        exact ⟨η3, T, r4, .ok .nx, η4, e4, fun σ' H' s r => again eo s r⟩
      · rename_i η4 e4
        exact ⟨η3, T, r4, .ok .ct, η4, e4, fun σ' H' s r => again eo s r⟩
      · rename_i η4 e4
        cases eo
        exact ⟨η3, T, r4, .ok .bk, η', e4, fun σ' H' s r => p σ' H' (s4.trans s) r⟩
      · rename_i rv η4 e4
        cases eo
        refine ⟨η3, T, r4, .ok (.rt rv), η', e4, ?_⟩
        cases rv with
        | d y => exact fun v σ' H' s r q => p v σ' H' (s4.trans s) r q
        | l ys => exact fun a ws σ' H' s f => p a ws σ' H' (s4.trans s) (f.elim (s4.leF a) fun z => .inr (s4.tr a z))
  · exact .inl ⟨stop i (by omega), by
      have e : items.drop i = [] := List.drop_eq_nil_of_le (by omega)
      rw [e] at n2
      exact n2.pure σ2 H2 s2 r2⟩
end

/-! ### list comprehensions -/
def wipeE : List Nat → EnvD → EnvD
  | [], η => η
  | v :: vs, η => (wipeE vs η).set v none
def compM (gm : PyData → EnvD → Option EnvD) (mt : MX Bool) (me : MX PyData) (vs : List Nat) : List PyData → List PyData → MX (List PyData)
  | [], acc => mPure acc
  | x :: xs, acc => fun η => match gm x η with
    | none => none
    | some η1 => match mt η1 with
      | some (.ok false, η2) => compM gm mt me vs xs acc (wipeE vs η2)
      | some (.ok true, η2) => match me η2 with
        | some (.ok y, η3) => if acc.length < sizeLine then compM gm mt me vs xs (acc ++ [y]) (wipeE vs η3) else none
        | _ => none
      | _ => none
def mComp (mi : MX (List PyData)) (gm : PyData → EnvD → Option EnvD) (mt : MX Bool) (me : MX PyData) (vs : List Nat) : MX (List PyData) := mBind mi fun xs => fun η => compM gm mt me vs xs [] (wipeE vs η)
section
variable {K : Fg} {mg : Str → Option Value} {σ σ2 : St} {H H1 H2 : Hp} {η η1 η2 : EnvD} {T : Addr → Prop}
theorem wipe_in {i : Nat} : ∀ {vs : List Nat}, i ∈ vs → ∀ x, (wipe σ vs)[i]? ≠ some (some x) := fun {vs} h x e => (wipe_some e).2 h
theorem wipe_out {i : Nat} : ∀ {vs : List Nat}, i ∉ vs → (wipe σ vs)[i]? = σ[i]?
  | [], _ => rfl
  | v :: vs, h => by
    unfold wipe
    rw [List.getElem?_set_ne (fun z => h (by simp [z]))]
    exact wipe_out fun z => h (by simp [z])
theorem wipe_none {i : Nat} : ∀ {vs : List Nat}, i ∈ vs → i < σ.length → (wipe σ vs)[i]? = some none
  | v :: vs, h, hi => by
    unfold wipe
    by_cases e : v = i
    · subst e
      exact List.getElem?_set_self (by rw [wipe_length]; exact hi)
    · rw [List.getElem?_set_ne e]
      refine wipe_none ?_ hi
      rcases List.mem_cons.mp h with z | z
      · exact absurd z.symm e
      · exact z
theorem wipe_eq {vs : List Nat} (hl : σ2.length = (wipe σ vs).length) (h : ∀ j, j ∉ vs → σ2[j]? = (wipe σ vs)[j]?) : wipe σ2 vs = wipe σ vs := by
  rw [wipe_length] at hl
  refine List.ext_getElem? fun i => ?_
  by_cases hi : i ∈ vs
  · by_cases hlt : i < σ.length
    · rw [wipe_none hi (by omega), wipe_none hi hlt]
    · rw [List.getElem?_eq_none (by rw [wipe_length]; omega), List.getElem?_eq_none (by rw [wipe_length]; omega)]
  · rw [wipe_out hi, h i hi]
/-- a slot emptied on both sides -/
theorem Rp.wipe1 {i : Nat} (r : Rp K mg σ H η T) : Rp K mg (σ.set i none) H (η.set i none) T := by
  have own : ∀ q, OwnAt (σ.set i none) (η.set i none) q → OwnAt σ η q := fun q ⟨j, b, ds, e1, e2⟩ => by
    rcases set_get e1 with ⟨_, e⟩ | ⟨_, e⟩
    · cases e
    · rcases set_get e2 with ⟨_, e'⟩ | ⟨_, e'⟩
      · cases e'
      · exact ⟨j, b, ds, e, e'⟩
  have kA : ∀ q, Avd (σ.set i none) (η.set i none) T q → Avd σ η T q := fun q z => z.imp id (own q)
  refine ⟨fun j d h' => ?_, fun j b ds h' => ?_, fun j nm d h' => ?_, fun j k b1 b2 d1 d2 a' h1 h2 h3 h4 => ?_, r.tl, by simpa using r.len⟩
  · rcases set_get h' with ⟨_, e⟩ | ⟨ne, e⟩
    · cases e
    · obtain ⟨v, e1, q1⟩ := r.val j d e
      exact ⟨v, by rw [List.getElem?_set_ne ne]; exact e1, Dq.less kA d v q1⟩
  · rcases set_get h' with ⟨_, e⟩ | ⟨ne, e⟩
    · cases e
    · obtain ⟨a, vs, e1, e2, q1, n⟩ := r.own j b ds e
      exact ⟨a, vs, by rw [List.getElem?_set_ne ne]; exact e1, e2, DqAll.less kA ds vs q1, n⟩
  · rcases set_get h' with ⟨_, e⟩ | ⟨ne, e⟩
    · cases e
    · obtain ⟨a, e1, q1⟩ := r.exc j nm d e
      exact ⟨a, by rw [List.getElem?_set_ne ne]; exact e1, q1.less kA⟩
  · rcases set_get h1 with ⟨_, e⟩ | ⟨ne, e⟩
    · cases e
    · rcases set_get h2 with ⟨_, e'⟩ | ⟨ne', e'⟩
      · cases e'
      · rw [List.getElem?_set_ne ne] at h3
        rw [List.getElem?_set_ne ne'] at h4
        exact r.inj j k b1 b2 d1 d2 a' e e' h3 h4
theorem Rp.wipe (r : Rp K mg σ H η T) : ∀ vs : List Nat, Rp K mg (wipe σ vs) H (wipeE vs η) T
  | [] => r
  | v :: vs => (Rp.wipe r vs).wipe1
/-- what is known of emptied slots holds of the full ones -/
theorem own_wipe {vs : List Nat} (r : Rp K mg (wipe σ vs) H η T) {q : Addr} : OwnAt (wipe σ vs) η q ↔ OwnAt σ η q := by
  constructor
  · rintro ⟨i, b, ds, e1, e2⟩
    exact ⟨i, b, ds, e1, (wipe_some e2).1⟩
  · rintro ⟨i, b, ds, e1, e2⟩
    obtain ⟨a, ws, e3, _⟩ := r.own i b ds e1
    have e4 := (wipe_some e3).1
    rw [e2] at e4; cases e4
    exact ⟨i, b, ds, e1, e3⟩
theorem free_wipe {vs : List Nat} (r : Rp K mg (wipe σ vs) H η T) {q : Addr} : FreeAt (wipe σ vs) η q ↔ FreeAt σ η q := by
  constructor
  · rintro ⟨i, ds, e1, e2⟩
    exact ⟨i, ds, e1, (wipe_some e2).1⟩
  · rintro ⟨i, ds, e1, e2⟩
    obtain ⟨a, ws, e3, _⟩ := r.own i false ds e1
    have e4 := (wipe_some e3).1
    rw [e2] at e4; cases e4
    exact ⟨i, ds, e1, e3⟩
theorem Rp.unwipe {vs : List Nat} (r : Rp K mg (L2.wipe σ vs) H η T) : Rp K mg σ H η T := by
  have kA : ∀ q, Avd σ η T q → Avd (L2.wipe σ vs) η T q := fun q z => z.imp id (own_wipe r).mpr
  have slot : ∀ {i : Nat} {b : Bool} {ds : List PyData} {a : Addr}, η[i]? = some (some (.own b ds)) → σ[i]? = some (some (.ref a)) → (L2.wipe σ vs)[i]? = some (some (.ref a)) := fun {i b ds a} e1 e2 => by
    obtain ⟨a', ws, e3, _⟩ := r.own i b ds e1
    have e4 := (wipe_some e3).1
    rw [e2] at e4; cases e4
    exact e3
  refine ⟨fun j d h' => ?_, fun j b ds h' => ?_, fun j nm d h' => ?_, fun j k b1 b2 d1 d2 a' h1 h2 h3 h4 => r.inj j k b1 b2 d1 d2 a' h1 h2 (slot h1 h3) (slot h2 h4), r.tl, by have := r.len; rw [wipe_length] at this; exact this⟩
  · obtain ⟨v, e1, q1⟩ := r.val j d h'
    exact ⟨v, (wipe_some e1).1, Dq.less kA d v q1⟩
  · obtain ⟨a, ws, e1, e2, q1, n⟩ := r.own j b ds h'
    exact ⟨a, ws, (wipe_some e1).1, e2, DqAll.less kA ds ws q1, n⟩
  · obtain ⟨a, e1, q1⟩ := r.exc j nm d h'
    exact ⟨a, (wipe_some e1).1, q1.less kA⟩
theorem wipeE_get {vs : List Nat} {i : Nat} {s : Slot} (h : (wipeE vs η)[i]? = some (some s)) : η[i]? = some (some s) := by
  induction vs with
  | nil => exact h
  | cons v vs ih =>
    unfold wipeE at h
    rcases set_get h with ⟨_, e⟩ | ⟨_, e⟩
    · cases e
    · exact ih e
theorem StepS.wipeE (vs : List Nat) : StepS σ H η σ H (DL.wipeE vs η) :=
  ⟨fun _ h => h, fun _ _ h _ => h, fun q ⟨i, b, ds, e1, e2⟩ => .inl ⟨i, b, ds, wipeE_get e1, e2⟩, fun q ⟨i, ds, e1, e2⟩ => .inl ⟨i, ds, wipeE_get e1, e2⟩, fun i ds e => ⟨⟨ds, wipeE_get e⟩, rfl⟩⟩
/-- a list that is told apart grows -/
theorem Rp.grow {D : Addr} {ws : List V} (r : Rp K mg σ H η T) (hD : T D) : Rp K mg σ (upd H D (.lst ws)) η T := by
  have kp : Kp (Avd σ η T) (Avd σ η T) H (upd H D (.lst ws)) := ⟨fun q o h n => by rw [upd_ne (fun z => n (.inl (by rw [z]; exact hD)))]; exact h, r.avd, fun q z => .inl z⟩
  refine ⟨fun i d h => ?_, fun i b ds h => ?_, fun i nm d h => ?_, r.inj, fun a h => ?_, r.len⟩
  · obtain ⟨v, e, q⟩ := r.val i d h
    exact ⟨v, e, Dq.keep kp d v q⟩
  · obtain ⟨a, vs, e, e2, q, n⟩ := r.own i b ds h
    exact ⟨a, vs, e, by rw [upd_ne (fun z => n (by rw [z]; exact hD))]; exact e2, DqAll.keep kp ds vs q, n⟩
  · obtain ⟨a, e, q⟩ := r.exc i nm d h
    exact ⟨a, e, q.kp kp⟩
  · by_cases e : a = D
    · subst e; exact ⟨ws, upd_same⟩
    · rw [upd_ne e]; exact r.tl a h
theorem Rp.growAll {D : Addr} {ws us : List V} {ds : List PyData} (r : Rp K mg σ H η T) (hD : T D) (q : DqAll K H (Avd σ η T) us ds) : DqAll K (upd H D (.lst ws)) (Avd σ η T) us ds :=
  DqAll.keep ⟨fun q o h n => by rw [upd_ne (fun z => n (.inl (by rw [z]; exact hD)))]; exact h, r.avd, fun q z => .inl z⟩ ds us q
theorem StepS.grow {D : Addr} {o : HO} (s : StepS σ H1 η1 σ2 H η) (n : H1 D = none) : StepS σ H1 η1 σ2 (upd H D o) η := by
  refine ⟨fun q h => ?_, fun q u h no => ?_, s.le, s.leF, s.inn⟩
  · by_cases e : q = D
    · rw [e]; exact n
    · rw [upd_ne e] at h; exact s.tr q h
  · rw [upd_ne (fun z => by rw [z, n] at h; cases h)]; exact s.keep q u h no
end
end L2.DL
end
section
set_option Elab.async false
set_option linter.all false
set_option maxRecDepth 100000
namespace L2.DL
open PySem PySem.Spec PyProof.Rows
set_option autoImplicit false

abbrev W0 : WX := fun _ _ _ _ => False
/-- the tests of a comprehension -/
def DTs (X : Cx) (W : WX) (ifs : List Expr) (m : MX Bool) : Prop := L2.PTs X ifs (tTs X.K X.mg W m)
theorem dts_nil {X : Cx} {W : WX} : DTs X W [] (mPure true) := by
  have h : L2.PTs X [] tYes := pts_nil
  exact ⟨fun pins s σ H Q I hw => h.run pins s σ H Q I (by obtain ⟨η, T, r0, n0⟩ := hw; exact n0.pure H StepS.refl r0)⟩
theorem dts_one {X : Cx} {W : WX} {c : Expr} {m : MX Bool} (h : DT X W c m) : DTs X W [c] m := pts_one h
section
variable {K : Fg} {mg : Str → Option Value}
theorem lc_imp {W : WX} {mi : MX (List PyData)} {gm : PyData → EnvD → Option EnvD} {mt : MX Bool} {me : MX PyData} {vs vs' : List Nat} {g : TG} (hsub : ∀ j ∈ vs', j ∈ vs)
    (hg : TGok K mg g vs' gm) :
    ∀ σ H Q, tF K mg W (mComp mi gm mt me vs) σ H Q → tLc (fun σ H R => tG K mg W (PIt K mg) mi σ H R) g (tTs K mg W0 mt) (tD K mg W0 me) vs σ H Q := by
  rintro σ H Q ⟨η, T, r0, n0⟩
  refine ⟨η, T, r0, n0.bind fun items η1 e1 n1 J H1 s1 r1 it D hD => ?_⟩
  have n1' := n1.later PL.later s1
  have r2 : Rp K mg (wipe σ vs) (upd H1 D (.lst [])) (wipeE vs η1) (fun q => T q ∨ q = D) := (r1.new hD).wipe vs
  have s2 : StepS σ H1 η1 σ (upd H1 D (.lst [])) (wipeE vs η1) := (StepS.more (More.upd hD)).trans (StepS.wipeE vs)
  refine ⟨fun i m H2 => m = items.length - i ∧ i ≤ items.length ∧ ∃ η2 acc ws, StepS σ H1 η1 σ H2 η2 ∧ Rp K mg (wipe σ vs) H2 η2 (fun q => T q ∨ q = D) ∧ H2 D = some (.lst ws) ∧ DqAll K H2 (Avd σ η2 fun q => T q ∨ q = D) ws acc ∧ Nx K mg W (PL K mg) σ H1 η1 T Q (compM gm mt me vs (items.drop i) acc η2),
    ⟨items.length, by simp, Nat.zero_le _, wipeE vs η1, [], [], s2, r2, upd_same, .nil, n1'⟩, ?_⟩
  rintro i m H2 ⟨rfl, hi2, η2, acc, ws, s3, r3, eD, qA, n3⟩
  have r3' := r3.unwipe
  obtain ⟨go, stop, yld⟩ := it H2 (Avd σ η2 fun q => T q ∨ q = D) ⟨fun q o h n => s3.keep q o h fun z => n (.inr z), r1.avd, fun q z => by
    rcases z with (z | z) | z
    · exact .inl (.inl z)
    · subst z; exact .inr hD
    · rcases s3.le q z with z | z
      · exact .inl (.inr z)
      · exact .inr z⟩ r3'.lists
  by_cases hlt : i < items.length
  · refine .inr ⟨go i hlt, fun H3 => ∃ η2 acc ws, StepS σ H1 η1 σ H3 η2 ∧ Rp K mg (wipe σ vs) H3 η2 (fun q => T q ∨ q = D) ∧ H3 D = some (.lst ws) ∧ DqAll K H3 (Avd σ η2 fun q => T q ∨ q = D) ws acc ∧ Nx K mg W (PL K mg) σ H1 η1 T Q (compM gm mt me vs (items.drop (i + 1)) acc η2),
      fun H' h => ⟨items.length - (i + 1), by omega, rfl, hlt, h⟩, fun x H3 y => ?_⟩
    obtain ⟨mo, d, ed, qd⟩ := yld i x H3 hlt y
    have ecs : items.drop i = d :: items.drop (i + 1) := by
      rw [List.drop_eq_getElem_cons hlt]
      have := (List.getElem?_eq_some_iff.mp ed).2
      rw [this]
    rw [ecs] at n3
    obtain ⟨o, η', eo, p⟩ := n3
    simp only [compM] at eo
    split at eo
    · cases eo
    · rename_i η3 e3
      have r4 : Rp K mg (wipe σ vs) H3 η2 (fun q => T q ∨ q = D) := r3.more mo
      have qd' : Dq K H3 (Avd (wipe σ vs) η2 fun q => T q ∨ q = D) x d := Dq.less (fun q z => z.imp id (own_wipe r3).mp) d x qd
      refine hg x d (wipe σ vs) H3 η2 _ η3 _ r4 qd' e3 fun σ4 s4 r5 l4 k4 => ?_
      have hw : wipe σ4 vs = wipe σ vs := wipe_eq l4 fun j hj => k4 j fun z => hj (hsub j z)
      refine ⟨hw, ?_⟩
      -- at a turn's end, back to the def's slots
      have back : ∀ {η5 : EnvD} {H5 : Hp}, StepS σ4 H3 η3 σ4 H5 η5 → Rp K mg σ4 H5 η5 (fun q => T q ∨ q = D) →
          StepS σ H1 η1 σ H5 (wipeE vs η5) ∧ Rp K mg (wipe σ vs) H5 (wipeE vs η5) (fun q => T q ∨ q = D) ∧ H5 D = some (.lst ws) ∧ (∀ q, Avd σ (wipeE vs η5) (fun q => T q ∨ q = D) q → Avd σ4 η5 (fun q => T q ∨ q = D) q) ∧ DqAll K H5 (Avd σ (wipeE vs η5) fun q => T q ∨ q = D) ws acc := fun {η5 H5} s r => by
        have rw5 : Rp K mg (wipe σ vs) H5 (wipeE vs η5) (fun q => T q ∨ q = D) := by rw [← hw]; exact r.wipe vs
        have sA : StepS (wipe σ vs) H3 η2 σ4 H5 (wipeE vs η5) := (s4.trans s).trans (StepS.wipeE vs)
        have own5 : ∀ q, OwnAt σ (wipeE vs η5) q → OwnAt σ4 (wipeE vs η5) q := fun q z => by
          obtain ⟨j, b, ds, z1, z2⟩ := (own_wipe rw5).mpr z
          rw [← hw] at z2
          exact ⟨j, b, ds, z1, (wipe_some z2).1⟩
        have free5 : ∀ q, FreeAt σ (wipeE vs η5) q → FreeAt σ4 (wipeE vs η5) q := fun q z => by
          obtain ⟨j, ds, z1, z2⟩ := (free_wipe rw5).mpr z
          rw [← hw] at z2
          exact ⟨j, ds, z1, (wipe_some z2).1⟩
        have sB : StepS σ H3 η2 σ H5 (wipeE vs η5) := by
          refine ⟨sA.tr, fun q o h n => sA.keep q o h fun z => n ((own_wipe r4).mp z), fun q z => ?_, fun q z => ?_, fun j ds z => ?_⟩
          · exact (sA.le q (own5 q z)).imp (own_wipe r4).mp id
          · exact (sA.leF q (free5 q z)).imp (free_wipe r4).mp id
          · exact ⟨(sA.inn j ds z).1, rfl⟩
        have hA : ∀ q, Avd σ (wipeE vs η5) (fun q => T q ∨ q = D) q → Avd σ4 η5 (fun q => T q ∨ q = D) q := fun q z => z.imp id fun z => by
          obtain ⟨j, b, ds, z1, z2⟩ := own5 q z
          exact ⟨j, b, ds, wipeE_get z1, z2⟩
        have eD5 : H5 D = some (.lst ws) := by
          refine s.keep D _ (mo D _ eD) fun z => ?_
          obtain ⟨j, b, ds, z1, z2⟩ := z
          obtain ⟨a, us, z3, _, _, z4⟩ := r5.own j b ds z1
          rw [z2] at z3; cases z3
          exact z4 (.inr rfl)
        refine ⟨(s3.trans (StepS.more mo)).trans sB, rw5, eD5, hA, ?_⟩
        have qA3 : DqAll K H3 (Avd σ η2 fun q => T q ∨ q = D) ws acc := qA.more r3'.lists mo
        exact DqAll.keep ((r4.unwipe).kp sB) acc ws qA3
      split at eo
      · rename_i η5 e5
        refine ⟨η3, _, r5, .ok false, η5, e5, fun H5 s5 r6 => ?_⟩
        obtain ⟨A, B, C, _, E⟩ := back s5 r6
        exact iteF ⟨_, acc, ws, A, B, C, E, o, η', eo, p⟩
      · rename_i η5 e5
        refine ⟨η3, _, r5, .ok true, η5, e5, fun H5 s5 r6 => ?_⟩
        refine iteT ?_
        split at eo
        · rename_i yv η6 e6
          split at eo
          · rename_i hsz
            refine ⟨η5, _, r6, .ok yv, η6, e6, fun v H6 s6 r7 q7 => ?_⟩
            obtain ⟨A, B, C, hA, E⟩ := back (s5.trans s6) r7
            have hD' : (fun q => T q ∨ q = D) D := .inr rfl
            have Bu := B.unwipe
            refine ⟨ws, C, by rw [E.length]; exact hsz, _, acc ++ [yv], ws ++ [v], A.grow hD, B.grow hD', upd_same, ?_, o, η', eo, p⟩
            exact Bu.growAll hD' (E.append (.cons (Dq.less hA yv v q7) .nil))
          · cases eo
        · cases eo
      · cases eo
  · refine .inl ⟨stop i (by omega), ?_⟩
    have e : items.drop i = [] := List.drop_eq_nil_of_le (by omega)
    rw [e] at n3
    refine n3.pure D ws H2 s3 hD eD r3' qA fun z => ?_
    rcases z with z | ⟨j, b, ds, z1, z2⟩
    · obtain ⟨us, w⟩ := r1.tl D z
      rw [hD] at w; cases w
    · obtain ⟨a, us, z3, _, _, z4⟩ := r3'.own j b ds z1
      rw [z2] at z3; cases z3
      exact z4 (.inr rfl)
end
section
variable {X : Cx} {W : WX} {elt tg iter : Expr} {ifs : List Expr} {scope : Scope} {own : List (Str × Nat)} {pos : Pos} {mi : MX (List PyData)} {gm : PyData → EnvD → Option EnvD} {mt : MX Bool} {me : MX PyData} {vs' : List Nat}
/-- [elt for tg in iter if ..] -/
theorem df_lc {g : TG} (hc : X.calm = true) (hN : X.N.Nodup) (hi : DI X W tg iter mi) (ok : BlkOk X.N X.env.scope scope own)
    (hg : ∀ (s : Shared) (H : Hp) (C : Addr) (cl : List (Str × Addr)) (fp : List Addr), PG (X.blk s H scope (compEnvC scope cl C X.env) fp) tg g) (gok : TGok X.K X.mg g vs' gm) (hsub : ∀ j ∈ vs', j ∈ own.map (·.2))
    (ht : ∀ (s : Shared) (H : Hp) (C : Addr) (cl : List (Str × Addr)) (fp : List Addr), DTs (X.blk s H scope (compEnvC scope cl C X.env) fp) W0 ifs mt) (he : ∀ (s : Shared) (H : Hp) (C : Addr) (cl : List (Str × Addr)) (fp : List Addr), DE (X.blk s H scope (compEnvC scope cl C X.env) fp) W0 elt me)
    (hs : ∀ x, foldedSetIterable iter X.env x = pure x := by intro _; rfl) : DF X W (.ListComp elt [⟨tg, iter, ifs, 0⟩] scope pos) (mComp mi gm mt me (own.map (·.2))) :=
  PE.imp (pe_lc (tt := tTs X.K X.mg W0 mt) (te := tD X.K X.mg W0 me) hc hN hi ok hg ht he hs) (lc_imp hsub gok)
/-- name = [..] on one line, the name a local -/
theorem ds_setLc {g : TG} {i : Nat} {y : Str} {py spos : Pos} (hc : X.calm = true) (hN : X.N.Nodup) (hy : X.N[i]? = some y) (hyl : X.env.scope.names.lookup y = some .local)
    (hsw : swapsWith (.ListComp elt [⟨tg, iter, ifs, 0⟩] scope pos) (some (.Name y py)) spos.line X.env = pure true) (hi : DI X W tg iter mi) (ok : BlkOk X.N X.env.scope scope own)
    (hg : ∀ (s : Shared) (H : Hp) (C : Addr) (cl : List (Str × Addr)) (fp : List Addr), PG (X.blk s H scope (compEnvC scope cl C X.env) fp) tg g) (gok : TGok X.K X.mg g vs' gm) (hsub : ∀ j ∈ vs', j ∈ own.map (·.2))
    (ht : ∀ (s : Shared) (H : Hp) (C : Addr) (cl : List (Str × Addr)) (fp : List Addr), DTs (X.blk s H scope (compEnvC scope cl C X.env) fp) W0 ifs mt) (he : ∀ (s : Shared) (H : Hp) (C : Addr) (cl : List (Str × Addr)) (fp : List Addr), DE (X.blk s H scope (compEnvC scope cl C X.env) fp) W0 elt me)
    (hs : ∀ x, foldedSetIterable iter X.env x = pure x := by intro _; rfl) : DS X W (.Assign [.Name y py] (.ListComp elt [⟨tg, iter, ifs, 0⟩] scope pos) spos) (mAsgL (mComp mi gm mt me (own.map (·.2))) i) :=
  PS.imp (L2.ps_setLc (tt := tTs X.K X.mg W0 mt) (te := tD X.K X.mg W0 me) hc hN hy hyl hsw hi ok hg ht he hs) (asgL_imp (lc_imp hsub gok))
end
end L2.DL
end
section
set_option Elab.async false
set_option linter.all false
set_option maxRecDepth 100000
namespace L2.DL
open PySem PySem.Spec PyProof.Rows
set_option autoImplicit false

/-! ### operators by data -/
theorem OpR.orR {X : Cx} {f : Value → Value → Sem Value} {r r' : R2} (h : OpR X f r) (h' : OpR X f r') : OpR X f (fun x y H Q => r x y H Q ∨ r' x y H Q) := OpR.or h h'
section
variable {K : Fg}
/-- xs + ys, lists of data however held -/
def rCatL (K : Fg) : R2 := fun x y H Q => ∃ l b xs zs, x = .ref l ∧ y = .ref b ∧ Rd H l (.lst xs) ∧ Rd H b (.lst zs) ∧ xs.length + zs.length ≤ sizeLine ∧ ∀ p, H p = none → Q (.ref p) (upd H p (.lst (xs ++ zs)))
theorem op_catL {X : Cx} : OpR X (binaryOp .Add) (rCatL X.K) := by
  intro pins s σ H x y v u Q I rx ry h
  obtain ⟨l, b, xs, zs, rfl, rfl, hH, hB, hz, q⟩ := h
  cases rx
  cases ry
  obtain ⟨z, its, n, r, e⟩ := hH.ok I.hok
  obtain ⟨z2, its2, n2, r2, e2⟩ := hB.ok I.hok
  refine PySem.P.add_list e e2 ?_ (by rw [List.size_toArray, List.size_toArray, ← r.length, ← r2.length]; exact hz)
  have ea : its.toArray ++ its2.toArray = (its ++ its2).toArray := by simp
  rw [ea]
  exact ⟨.ref _, _, I.lnew (t' := s.toks) (r.append r2) (by rw [List.length_append]; omega), rfl, q _ I.fresh⟩
def rRepL (K : Fg) : R2 := fun x y H Q => ∃ l k xs, x = .ref l ∧ y = .int k ∧ Rd H l (.lst xs) ∧ -(2 ^ 63) ≤ k ∧ k < 2 ^ 63 ∧ xs.length * k.toNat ≤ sizeLine ∧
  ∀ p, H p = none → Q (.ref p) (upd H p (.lst (List.replicate k.toNat xs).flatten))
theorem op_repL {X : Cx} : OpR X (binaryOp .Mult) (rRepL X.K) := by
  intro pins s σ H x y v u Q I rx ry h
  obtain ⟨l, k, xs, rfl, rfl, hH, h1, h2, hz, q⟩ := h
  cases rx
  obtain ⟨t, rfl⟩ := ry
  obtain ⟨z, its, n, r, e⟩ := hH.ok I.hok
  have hlen : its.toArray.size * k.toNat ≤ sizeLine := by rw [List.size_toArray, ← r.length]; exact hz
  have hcap : ¬ its.toArray.size * k.toNat > (2 ^ 63 - 1) / 8 := by
    have : (sizeLine : Nat) ≤ (2 ^ 63 - 1) / 8 := by decide
    omega
  have hfit : ¬ (!Builtin.List.listFitsIndex k) = true := by
    rw [fitsIndex_both h1 h2]
    exact Bool.false_ne_true
  have hlong : ¬ Builtin.List.listTooLong (its.toArray.size * k.toNat) = true := by
    rw [notLongL hlen]
    exact Bool.false_ne_true
  have hnew : List.foldl (fun x1 x2 => x1 ++ x2) #[] (List.replicate (if its.toArray.isEmpty = true then 0 else k.toNat) its.toArray) = (List.replicate k.toNat its).flatten.toArray := by
    have f0 : ∀ m : Nat, List.foldl (fun x1 x2 => x1 ++ x2) #[] (List.replicate m its.toArray) = (List.replicate m its).flatten.toArray := fun m => by
      have := foldl_rep its m []
      rw [List.nil_append] at this
      exact this
    rw [f0]
    cases its with
    | nil => simp
    | cons a r' => rw [if_neg (by simp)]

  refine wpAny_binaryOp_repeat_ref (T := "list") (U := "int") (by decide) ⟨_, e, rfl⟩ (fun s' => typeIs_int s' k t) noFill_list_mul F.fills_int_mul F.slot_int_rmul repeat_list F.slot_int_index.lookup
    (call_meets F.slot_int_rmul (typeIs_int s k t) F.entry_int_rmul (F.args_int_rmul_2 _ _) (int___rmul___int_list k t l its.toArray n)
      ⟨e, rfl, ⟨_, e, rfl⟩, call_meets F.slot_list_mul ⟨_, e, rfl⟩ F.entry_list_mul (F.args_list_mul_2 _ _) (AutoListH.list___mul___list_int_3 l its.toArray n k t hfit hcap hlong) ⟨e, ?_⟩⟩)
  rw [hnew]
  exact ⟨.ref _, _, I.lnew (t' := s.toks) (r.rep k.toNat) (by rw [PyProof.Rows.lm_len_rep_flat, Nat.mul_comm]; exact hz), rfl, q _ I.fresh⟩
def addD : PyData → PyData → Option PyData
  | .int i, .int j => some (.int (i + j))
  | .str x, .str y => if x.length + y.length ≤ sizeLine then some (.str (x ++ y)) else none
  | .tuple xs, .tuple ys => if xs.length + ys.length ≤ sizeLine then some (.tuple (xs ++ ys)) else none
  | .list xs, .list ys => if xs.length + ys.length ≤ sizeLine then some (.list (xs ++ ys)) else none
  | _, _ => none
/-- lists alone: a new one -/
def catD : PyData → PyData → Option (List PyData)
  | .list xs, .list ys => if xs.length + ys.length ≤ sizeLine then some (xs ++ ys) else none
  | _, _ => none
def rAddA (K : Fg) : R2 := fun x y H Q => (rI0 fun i j => .int (i + j)) x y H Q ∨ (∃ i j, x = .str i ∧ y = .str j ∧ i.length + j.length ≤ sizeLine ∧ Q (.str (i ++ j)) H) ∨ rCatA K x y H Q ∨ rCatL K x y H Q
theorem op_addA {X : Cx} : OpR X (binaryOp .Add) (rAddA X.K) := OpR.or op_add (OpR.or op_add_str (OpR.or op_catA op_catL))
theorem Dq.fresh {H : Hp} {O : Addr → Prop} {vs : List V} {ds : List PyData} {p : Addr} (l : Lists H O) (h : H p = none) (q : DqAll K H O vs ds) : Dq K (upd H p (.lst vs)) O (.ref p) (.list ds) := .lst (l.no h) (.inl upd_same) (q.more l (More.upd h))
theorem addD_ok : OpG K (rAddA K) addD := by
  intro x y d e z H O Q l qx qy hg k
  cases qx <;> cases qy <;> simp only [addD] at hg <;> try (cases hg)
  · exact .inl ⟨_, _, rfl, rfl, k _ _ More.refl (.int _)⟩
  · split at hg
    · rename_i hl
      cases hg
      exact .inr (.inl ⟨_, _, rfl, rfl, hl, k _ _ More.refl (.str _)⟩)
    · cases hg
  · rename_i a xs ds na ha qa b ys es nb hb qb
    split at hg
    · rename_i hl
      cases hg
      exact .inr (.inr (.inr ⟨a, b, xs, ys, rfl, rfl, ha, hb, by rw [qa.length, qb.length]; exact hl, fun p hp => k _ _ (More.upd hp) (Dq.fresh l hp (qa.append qb))⟩))
    · cases hg
  · rename_i a xs ds ha qa b ys es hb qb
    split at hg
    · rename_i hl
      cases hg
      refine .inr (.inr (.inl ⟨a, b, xs, ys, rfl, rfl, ha, hb, by rw [qa.length, qb.length]; exact hl, fun e => ?_, fun _ e => ?_, fun _ _ p hp => ?_⟩))
      · subst e
        cases qa
        exact k _ _ More.refl (.tup hb qb)
      · subst e
        cases qb
        rw [List.append_nil] at k
        exact k _ _ More.refl (.tup ha qa)
      · exact k _ _ (More.upd hp) (.tup (.inl (.inl upd_same)) ((qa.append qb).more l (More.upd hp)))
    · cases hg
theorem catD_ok : OpL K (rCatL K) catD := by
  intro x y d e z H O Q l qx qy hg k
  cases qx <;> cases qy <;> simp only [catD] at hg <;> try (cases hg)
  rename_i a xs ds na ha qa b ys es nb hb qb
  split at hg
  · rename_i hl
    cases hg
    exact ⟨a, b, xs, ys, rfl, rfl, ha, hb, by rw [qa.length, qb.length]; exact hl, fun p hp => k p (xs ++ ys) hp (qa.append qb)⟩
  · cases hg
def iiD (f : Int → Int → Option PyData) : PyData → PyData → Option PyData
  | .int i, .int j => f i j
  | _, _ => none
theorem iiD_ok {r : R2} {f : Int → Int → Option PyData} (h : ∀ i j z H Q, f i j = some z → (∀ v, Dq K H (fun _ => False) v z → (∀ O, Dq K H O v z) → Q v H) → r (.int i) (.int j) H Q) : OpG K r (iiD f) := by
  intro x y d e z H O Q l qx qy hg k
  cases qx <;> cases qy <;> simp only [iiD] at hg <;> try (cases hg)
  exact h _ _ z H Q hg fun v _ q => k v H More.refl (q O)
abbrev subD := iiD fun i j => some (.int (i - j))
theorem subD_ok : OpG K (rI0 fun i j => .int (i - j)) subD := iiD_ok fun i j z H Q e k => by cases e; exact ⟨i, j, rfl, rfl, k _ (.int _) fun _ => .int _⟩
instance (i j : Int) : Decidable (CMul i j) := by unfold CMul; infer_instance
instance (i j : Int) : Decidable (CMulW i j) := by unfold CMulW; infer_instance
instance (i j : Int) : Decidable (CDivN i j) := by unfold CDivN; infer_instance
instance (i j : Int) : Decidable (CDivW i j) := by unfold CDivW; infer_instance
instance (i j : Int) : Decidable (CPow i j) := by unfold CPow; infer_instance
/-- products: of ints; a tuple times a number -/
def mulD : PyData → PyData → Option PyData
  | .int i, .int j => if CMul i j ∨ CMulW i j then some (.int (i * j)) else none
  | .tuple xs, .int k => if xs ≠ [] ∧ 2 ≤ k ∧ k ≤ 1000 ∧ xs.length ≤ 1000 then some (.tuple (List.replicate k.toNat xs).flatten) else none
  | .list xs, .int k => if -(2 ^ 63) ≤ k ∧ k < 2 ^ 63 ∧ xs.length * k.toNat ≤ sizeLine then some (.list (List.replicate k.toNat xs).flatten) else none
  | _, _ => none
def rMulA (K : Fg) : R2 := fun x y H Q => (rI CMul fun i j => .int (i * j)) x y H Q ∨ (rI CMulW fun i j => .int (i * j)) x y H Q ∨ rRepT K x y H Q ∨ rRepL K x y H Q
theorem op_mulA {X : Cx} : OpR X (binaryOp .Mult) (rMulA X.K) := OpR.or op_mul (OpR.or op_mulW (OpR.or op_repT op_repL))
theorem DqAll.rep {H : Hp} {O : Addr → Prop} {vs : List V} {ds : List PyData} (q : DqAll K H O vs ds) : ∀ k : Nat, DqAll K H O (List.replicate k vs).flatten (List.replicate k ds).flatten
  | 0 => .nil
  | k + 1 => by
    rw [List.replicate_succ, List.replicate_succ, List.flatten_cons, List.flatten_cons]
    exact q.append (DqAll.rep q k)
theorem mulD_ok : OpG K (rMulA K) mulD := by
  intro x y d e z H O Q l qx qy hg k
  cases qx <;> cases qy <;> simp only [mulD] at hg <;> try (cases hg)
  · split at hg
    · rename_i h
      cases hg
      rcases h with h | h
      · exact .inl ⟨_, _, rfl, rfl, h, k _ _ More.refl (.int _)⟩
      · exact .inr (.inl ⟨_, _, rfl, rfl, h, k _ _ More.refl (.int _)⟩)
    · cases hg
  · rename_i a xs ds na ha qa n
    split at hg
    · rename_i h
      cases hg
      exact .inr (.inr (.inr ⟨a, n, xs, rfl, rfl, ha, h.1, h.2.1, by rw [qa.length]; exact h.2.2, fun p hp => k _ _ (More.upd hp) (Dq.fresh l hp (qa.rep _))⟩))
    · cases hg
  · rename_i a xs ds ha qa n
    split at hg
    · rename_i h
      cases hg
      refine .inr (.inr (.inl ⟨a, n, xs, rfl, rfl, ha, fun z => h.1 ?_, h.2.1, h.2.2.1, by rw [qa.length]; exact h.2.2.2, fun p hp => ?_⟩))
      · subst z
        cases qa
        rfl
      · exact k _ _ (More.upd hp) (.tup (.inl (.inl upd_same)) ((qa.rep _).more l (More.upd hp)))
    · cases hg
/-- a list times a number: a new list -/
def repD : PyData → PyData → Option (List PyData)
  | .list xs, .int k => if -(2 ^ 63) ≤ k ∧ k < 2 ^ 63 ∧ xs.length * k.toNat ≤ sizeLine then some (List.replicate k.toNat xs).flatten else none
  | _, _ => none
theorem repD_ok : OpL K (rRepL K) repD := by
  intro x y d e z H O Q l qx qy hg k
  cases qx <;> cases qy <;> simp only [repD] at hg <;> try (cases hg)
  rename_i a xs ds na ha qa n
  split at hg
  · rename_i h
    cases hg
    exact ⟨a, n, xs, rfl, rfl, ha, h.1, h.2.1, by rw [qa.length]; exact h.2.2, fun p hp => k p _ hp (qa.rep _)⟩
  · cases hg
abbrev fdivD := iiD fun i j => if CDivN i j ∨ CDivW i j then some (.int (i.fdiv j)) else none
theorem op_fdivA {X : Cx} : OpR X (binaryOp .FloorDiv) (fun x y H Q => (rI CDivN fun i j => .int (i.fdiv j)) x y H Q ∨ (rI CDivW fun i j => .int (i / j)) x y H Q) := OpR.or op_fdivN op_fdivW
theorem fdivD_ok : OpG K (fun x y H Q => (rI CDivN fun i j => .int (i.fdiv j)) x y H Q ∨ (rI CDivW fun i j => .int (i / j)) x y H Q) fdivD := iiD_ok fun i j z H Q e k => by
  split at e
  · rename_i h
    cases e
    rcases h with h | h
    · exact .inl ⟨i, j, rfl, rfl, h, k _ (.int _) fun _ => .int _⟩
    · have h0 : (0 : Int) < j := h.1
      rw [Int.fdiv_eq_ediv_of_nonneg i (by omega)] at k
      exact .inr ⟨i, j, rfl, rfl, h, k _ (.int _) fun _ => .int _⟩
  · cases e
abbrev modD := iiD fun i j => if j ≠ 0 then some (.int (i.fmod j)) else none
theorem modD_ok : OpG K (rI (fun _ j => j ≠ 0) fun i j => .int (i.fmod j)) modD := iiD_ok fun i j z H Q e k => by
  split at e
  · rename_i h
    cases e
    exact ⟨i, j, rfl, rfl, h, k _ (.int _) fun _ => .int _⟩
  · cases e
abbrev powD := iiD fun i j => if CPow i j then some (.int (i ^ j.toNat)) else none
theorem powD_ok : OpG K (rI CPow fun i j => .int (i ^ j.toNat)) powD := iiD_ok fun i j z H Q e k => by
  split at e
  · rename_i h
    cases e
    exact ⟨i, j, rfl, rfl, h, k _ (.int _) fun _ => .int _⟩
  · cases e
abbrev shlD := iiD fun i j => if CPow i j then some (.int (i * 2 ^ j.toNat)) else none
theorem shlD_ok : OpG K (rI CPow fun i j => .int (i * 2 ^ j.toNat)) shlD := iiD_ok fun i j z H Q e k => by
  split at e
  · rename_i h
    cases e
    exact ⟨i, j, rfl, rfl, h, k _ (.int _) fun _ => .int _⟩
  · cases e
abbrev shrD := iiD fun i j => if 0 ≤ j then some (.int (i / 2 ^ j.toNat)) else none
theorem shrD_ok : OpG K (rI (fun _ j => 0 ≤ j) fun i j => .int (i / 2 ^ j.toNat)) shrD := iiD_ok fun i j z H Q e k => by
  split at e
  · rename_i h
    cases e
    exact ⟨i, j, rfl, rfl, h, k _ (.int _) fun _ => .int _⟩
  · cases e
abbrev andD := iiD fun i j => some (.int (Builtin.bitAnd i j))
theorem andD_ok : OpG K (rI0 fun i j => .int (Builtin.bitAnd i j)) andD := iiD_ok fun i j z H Q e k => by cases e; exact ⟨i, j, rfl, rfl, k _ (.int _) fun _ => .int _⟩
abbrev orD := iiD fun i j => some (.int (Builtin.bitOr i j))
theorem orD_ok : OpG K (rI0 fun i j => .int (Builtin.bitOr i j)) orD := iiD_ok fun i j z H Q e k => by cases e; exact ⟨i, j, rfl, rfl, k _ (.int _) fun _ => .int _⟩

/-! ### comparisons -/
def eqD (d e : PyData) : Option PyData := if SeqAt.shaped d = true ∧ SeqAt.shaped e = true then some (.bool (PyData.eqv d e)) else none
def neD (d e : PyData) : Option PyData := if SeqAt.shaped d = true ∧ SeqAt.shaped e = true then some (.bool (!PyData.eqv d e)) else none
theorem eqD_ok : OpG K (rEqD K) eqD := by
  intro x y d e z H O Q l qx qy hg k
  unfold eqD at hg
  split at hg
  · rename_i h
    cases hg
    exact ⟨d, e, Dq.dp d x qx, Dq.dp e y qy, h.1, h.2, k _ _ More.refl (.bl _)⟩
  · cases hg
theorem neD_ok : OpG K (rNeD K) neD := by
  intro x y d e z H O Q l qx qy hg k
  unfold neD at hg
  split at hg
  · rename_i h
    cases hg
    exact ⟨d, e, Dq.dp d x qx, Dq.dp e y qy, h.1, h.2, k _ _ More.refl (.bl _)⟩
  · cases hg
abbrev ltD := iiD fun i j => some (.bool (decide (i < j)))
abbrev leD := iiD fun i j => some (.bool (decide (i ≤ j)))
abbrev gtD := iiD fun i j => some (.bool (decide (j < i)))
abbrev geD := iiD fun i j => some (.bool (decide (j ≤ i)))
theorem ltD_ok : OpG K (rI0 fun i j => .bl (decide (i < j))) ltD := iiD_ok fun i j z H Q e k => by cases e; exact ⟨i, j, rfl, rfl, k _ (.bl _) fun _ => .bl _⟩
theorem leD_ok : OpG K (rI0 fun i j => .bl (decide (i ≤ j))) leD := iiD_ok fun i j z H Q e k => by cases e; exact ⟨i, j, rfl, rfl, k _ (.bl _) fun _ => .bl _⟩
theorem gtD_ok : OpG K (rI0 fun i j => .bl (decide (j < i))) gtD := iiD_ok fun i j z H Q e k => by cases e; exact ⟨i, j, rfl, rfl, k _ (.bl _) fun _ => .bl _⟩
theorem geD_ok : OpG K (rI0 fun i j => .bl (decide (j ≤ i))) geD := iiD_ok fun i j z H Q e k => by cases e; exact ⟨i, j, rfl, rfl, k _ (.bl _) fun _ => .bl _⟩
def isNoneD : PyData → Bool
  | .none => true
  | _ => false
def isD (d e : PyData) : Option PyData := match e with
  | .none => some (.bool (isNoneD d))
  | _ => none
def isnD (d e : PyData) : Option PyData := match e with
  | .none => some (.bool (!isNoneD d))
  | _ => none
theorem isN_of {H : Hp} {O : Addr → Prop} {v : V} {d : PyData} (q : Dq K H O v d) : decide (v = .non) = isNoneD d := by
  cases q <;> first | rfl | exact decide_eq_false (fun z => by cases z)
theorem isD_ok : OpG K (fun x y H Q => y = .non ∧ Q (.bl (decide (x = .non))) H) isD := by
  intro x y d e z H O Q l qx qy hg k
  cases qy <;> simp only [isD] at hg <;> cases hg
  exact ⟨rfl, by rw [isN_of qx]; exact k _ _ More.refl (.bl _)⟩
theorem isnD_ok : OpG K (fun x y H Q => y = .non ∧ Q (.bl (!decide (x = .non))) H) isnD := by
  intro x y d e z H O Q l qx qy hg k
  cases qy <;> simp only [isnD] at hg <;> cases hg
  exact ⟨rfl, by rw [isN_of qx]; exact k _ _ More.refl (.bl _)⟩

/-! ### items -/
def ixD (d e : PyData) : Option PyData := match d, e with
  | .list xs, .int i => atI xs i
  | .tuple xs, .int i => atI xs i
  | .str z, .int i => if z.length ≤ sizeLine then (atI z.cps.toList i).map fun c => .str ⟨#[c]⟩ else none
  | _, _ => none
theorem atI_all {H : Hp} {O : Addr → Prop} {vs : List V} {ds : List PyData} {i : Int} {z : PyData} (q : DqAll K H O vs ds) (h : atI ds i = some z) : ∃ v, atI vs i = some v ∧ Dq K H O v z := by
  unfold atI at h ⊢
  rw [q.length]
  obtain ⟨j, e1, e2⟩ := Option.bind_eq_some_iff.mp h
  rw [e1]
  exact q.get e2
theorem ixD_ok : OpG K (rIx K) ixD := by
  intro x y d e z H O Q l qx qy hg k
  cases qx <;> cases qy <;> simp only [ixD] at hg <;> try (cases hg)
  · rename_i i
    split at hg
    · rename_i hl
      obtain ⟨c, e1, e2⟩ := Option.map_eq_some_iff.mp hg
      subst e2
      exact .inr (.inr ⟨_, _, c, rfl, rfl, hl, e1, k _ _ More.refl (.str _)⟩)
    · cases hg
  · obtain ⟨v, e1, qv⟩ := atI_all (by assumption) hg
    exact .inl ⟨_, _, _, v, rfl, rfl, .inl (by assumption), e1, k _ _ More.refl qv⟩
  · obtain ⟨v, e1, qv⟩ := atI_all (by assumption) hg
    exact .inr (.inl ⟨_, _, _, v, rfl, rfl, by assumption, e1, k _ _ More.refl qv⟩)
end
end L2.DL
end
section
set_option Elab.async false
set_option linter.all false
set_option maxRecDepth 100000
namespace L2.DL
open PySem PySem.Spec PyProof.Rows
set_option autoImplicit false

/-! ### promises that hold where no repr is under way -/
structure FnG (P : Program) (w : World) (K : PySem.W.Frag) (mg : Str → Option Value) (base : Heap) (CX : CXT) (k : Nat) (f : Addr) (fd : FuncData) (ps : List Str) (sp : Sp) : Prop where
  len : ∀ vs H Q E, sp vs H Q E → vs.length = ps.length
  run : ∀ (A : Around) (outer : List Env) (s : Shared) (H : Hp) (args : Args) (us : List Value) (vs : List V) (Q : VK) (E : XK), Room k A → A.guards = some [] → Env0 P w K mg base A outer s H → BindsTo s fd args (ps.zip us) → Vals vs us → sp vs H Q E →
    codeAny (model P w) A (.call (.ref f) args) (CR CX outer P w H s Q E) s
section
variable {P : Program} {w : World} {K : PySem.W.Frag} {mg : Str → Option Value} {base : Heap} {CX : CXT} {j k : Nat} {f : Addr} {fd : FuncData} {ps : List Str} {sp : Sp}
theorem FnOk.toG (F : FnOk P w K mg base CX k f fd ps sp) : FnG P w K mg base CX k f fd ps sp := ⟨F.len, fun A outer s H args us vs Q E hr _ => F.run A outer s H args us vs Q E hr⟩
theorem FnG.mono (F : FnG P w K mg base CX j f fd ps sp) (h : j ≤ k) : FnG P w K mg base CX k f fd ps sp := ⟨F.len, fun A outer s H args us vs Q E hr => F.run A outer s H args us vs Q E (hr.mono h)⟩
theorem FnG.imp {sp' : Sp} (F : FnG P w K mg base CX k f fd ps sp) (h : ∀ vs H Q E, sp' vs H Q E → sp vs H Q E) : FnG P w K mg base CX k f fd ps sp' :=
  ⟨fun vs H Q E q => F.len vs H Q E (h _ _ _ _ q), fun A outer s H args us vs Q E hr hg he hb hv hs => F.run A outer s H args us vs Q E hr hg he hb hv (h _ _ _ _ hs)⟩
end
section
variable {X : Cx} {CX : CXT} {k n : Nat} {f C : Addr} {fd : FuncData} {ps ks : List Str} {sp : Sp} {E : St → XK} {x m : Str} {p pos apos : Pos} {e o : Expr} {es : List Expr} {ta : TE} {t tk : TA} {kws : List Keyword}
theorem run_fnG {pins : List (Addr × Obj)} {σ : St} {H : Hp} {s : Shared} {Q : VK} {us : List Value} {vs : List V} {args : Args} (F : FnG X.prog X.w X.K X.mg X.base CX k f fd ps sp) (hr : Room k X.A) (hgd : X.A.guards = some []) (hx : PassesAt CX X σ (E σ))
    (I : Inv X pins σ H s) (b : BindsTo s fd args (ps.zip us)) (r : Vals vs us) (h : sp vs H Q (E σ)) : wpAny (model X.prog X.w) X.A (call (.ref f) args.pos args.kw) (EP X pins σ Q) X.xe s := by
  refine wpAny_call (codeAny_mono (F.run X.A X.stack s H args us vs Q (E σ) hr hgd I.env0 b r h) fun r s' hq => ?_)
  cases r with
  | error e => exact hx pins H s e s' I hq
  | ok fl =>
    cases fl with
    | ret u => exact I.after hq
    | next => exact False.elim hq
    | brk => exact False.elim hq
    | cont => exact False.elim hq
end
end L2.DL
namespace L2
open L2.DL
open PySem PySem.Spec PyProof.Rows
/-- the written part holds no list -/
def noLists : PySem.W.Frag → Bool
  | [] => true
  | p :: K => (match p.2.cls with | .type s => s != "list" | _ => true) && noLists K
theorem noLists_at : ∀ {K : PySem.W.Frag} {a : Addr} {o : Obj}, noLists K = true → List.lookup a K = some o → o.cls ≠ .type "list"
  | [], _, _, _, h => by cases h
  | p :: K, a, o, h, e => by
    unfold noLists at h
    rw [Bool.and_eq_true] at h
    obtain ⟨b, u⟩ := p
    rw [List.lookup_cons] at e
    split at e
    · cases e
      intro z
      have h1 := h.1
      simp only at h1
      rw [z] at h1
      simp at h1
    · exact noLists_at h.2 e
theorem law_callG {P : Program} {w : World} {K : PySem.W.Frag} {mg mb : Str → Option Value} {CX : CXT} {k : Nat} {fa a : Addr} {fd : FuncData} {x : Str} {sp : Sp} {s₁ : Shared} {vs : List Value} {ns : List Int}
    (hnl : noLists K = true) (KX : K.In s₁.heap) (hns : s₁.heap.Ns mainGlobals mg) (hb : s₁.heap.Ns builtinsNs mb) (hbb : ∀ x : Str, x ≠ "__name__" → mb x = bootBuiltins x) (hlim : s₁.heap.NoLimit) (hg : s₁.gens = #[])
    (ha : s₁.heap.get? a = some { cls := .type "list", data := .seq vs.toArray }) (hi : IntsAre vs ns) (hl : ns.length ≤ sizeLine) (hr : Room k callerA)
    (F : ∀ base : Heap, K.In base → base.Ns mainGlobals mg → FnG P w K mg base CX k fa fd [x] sp) (hbind : ∀ (s : Shared) (u : Value), BindsTo s fd ⟨[u], []⟩ [(x, u)])
    (hsp : ∀ H : Hp, Only H → Rd H a (.lst (ns.map V.int)) → sp [.ref a] H (fun v _ => v = .bl true) fun _ _ _ => False)
    (hCX : ∀ H e s', CX [] H s₁ (fun _ _ _ => False) e s' → False) :
    codeAny (model P w) callerA (.call (.ref fa) ⟨[.ref a], []⟩) (fun r s' => r = .ok (.ret (.bool true)) ∧ OldK s₁.heap s'.heap ∧ s'.os = s₁.os ∧ AllBare s'.gens) s₁ := by
  have rv := vals_ints hi
  have lenV := hi.length
  -- from an abstract heap in which nothing but the script may be tracked
  have core : ∀ H : Hp, Only H → Rd H a (.lst (ns.map V.int)) → HOk P w H s₁.heap → (∀ b, H b ≠ none → b = a) → (H a ≠ none → K.lookup a = none) →
      codeAny (model P w) callerA (.call (.ref fa) ⟨[.ref a], []⟩) (fun r s' => r = .ok (.ret (.bool true)) ∧ OldK s₁.heap s'.heap ∧ s'.os = s₁.os ∧ AllBare s'.gens) s₁ := by
    intro H hO hS hok hA hK
    have base_of : ∀ {b : Addr} {o : Obj}, s₁.heap.get? b = some o → H b = none → (hidT s₁.heap H).get? b = some o := fun e n => hidT_get e n
    have noA : ∀ {b : Addr} {o : Obj} {es : Array DictEntry} {ep : Nat}, s₁.heap.get? b = some o → o.data = .dict es ep → H b = none := fun {b o es ep} e d => by
      cases q : H b with
      | none => rfl
      | some u =>
        have e' : b = a := hA b (by rw [q]; simp)
        subst e'
        rw [ha] at e; cases e
        have d' : Data.seq vs.toArray _ = Data.dict es ep := d
        cases d'
    have nsK : ∀ {b : Addr} {m : Str → Option Value}, s₁.heap.Ns b m → (hidT s₁.heap H).Ns b m := fun {b m} ⟨o, es, ep, e, d, r⟩ => ⟨o, es, ep, base_of e (noA e d), d, r⟩
    have hKb : K.In (hidT s₁.heap H) := fun b o e => base_of (KX b o e) (by
      cases q : H b with
      | none => rfl
      | some u =>
        have e' : b = a := hA b (by rw [q]; simp)
        subst e'
        rw [hK (by rw [q]; simp)] at e; cases e)
    have hM : Mod K mg (hidT s₁.heap H) := ⟨hKb, nsK hns, ⟨mb, nsK hb, hbb⟩, let ⟨mc, h1, h2⟩ := hlim; ⟨mc, nsK h1, h2⟩⟩
    have e0 : Env0 P w K mg (hidT s₁.heap H) callerA [] s₁ H := ⟨rfl, hM, fun b o e => of_hidT e, Nat.le_of_eq (hidT_size _ _), trivial, fun b hb => absurd (show b ∈ ([] : List Addr) from hb) (by simp), hok, .of_eq hg⟩
    refine codeAny_mono ((F _ hKb (nsK hns)).run callerA [] s₁ H ⟨[.ref a], []⟩ [.ref a] [.ref a] _ _ hr rfl e0 (hbind s₁ (.ref a)) (.cons rfl .nil) (hsp H hO hS)) fun r s' h => ?_
    cases r with
    | error e => exact (hCX H e s' h).elim
    | ok fl =>
      cases fl with
      | next => exact False.elim h
      | brk => exact False.elim h
      | cont => exact False.elim h
      | ret u =>
        obtain ⟨v, H', os, bare, un, hok', r', q⟩ := h
        have q' : v = .bl true := q
        subst q'
        obtain rfl : u = Value.bool true := r'
        refine ⟨rfl, OldK.of_keep fun b o e => ?_, os, bare⟩
        cases q : H b with
        | none => exact un.keep b o e q (by intro z; exact absurd (show b ∈ ([] : List Addr) from z) (by simp)) (by simp)
        | some u =>
          rcases hO b with z | ⟨ob, xs, z⟩
          · rw [q] at z; cases z
          · have z2 := un.frzs b ob _ z
            obtain ⟨e1, _⟩ := hok b _ z
            obtain ⟨e2, _⟩ := hok' b _ z2
            rw [e] at e1; cases e1
            exact e2
  cases hk : K.lookup a with
  | some o =>
    have e := KX a o hk
    rw [ha] at e
    cases e
    exact absurd rfl (noLists_at hnl hk)
  | none =>
    refine core (fun b => if b = a then some (.frz { cls := .type "list", data := .seq vs.toArray } (.lst (ns.map V.int))) else none) (fun b => ?_) (.inr ⟨{ cls := .type "list", data := .seq vs.toArray }, if_pos rfl⟩) (fun b u z => ?_) (fun b z => ?_) fun _ => hk
    · by_cases hb : b = a
      · exact .inr ⟨_, _, if_pos hb⟩
      · exact .inl (if_neg hb)
    · by_cases hb : b = a
      · have z' := (if_pos hb).symm.trans z
        cases z'
        subst hb
        exact ⟨ha, by rw [List.length_map]; exact hl, vs, _, rv, ha⟩
      · have z' := (if_neg hb).symm.trans z
        cases z'
    · by_cases hb : b = a
      · exact hb
      · exact absurd (if_neg hb) z
theorem walk_ofG {l : PySem.W.OpenLaw} {n k : Nat} {q : Program} {loose : List Str} {XP : (Str → Option Value) → Heap → Prop} {YP : World → Heap → Prop} {d : DefRec} {K : Params → PySem.W.Frag} {CX : World → CXT} {sp : World → Sp} {x : Str}
    (hn : l.most = some n) (hn2 : n ≤ sizeLine) (hdf : d.params.defaults = []) (hr : Room k callerA)
    (hnl : ∀ w : World, noLists (K w.params) = true) (hY : ∀ (w : World) (h : Heap), YP w h → (K w.params).In h)
    (F : ∀ (w : World) (mg : Str → Option Value) (fa : Addr) (h : Heap), (K w.params).In h → h.Ns mainGlobals mg → mg d.name = some (.ref fa) →
      ∃ fd : FuncData, (∀ (s : Shared) (u : Value), BindsTo s fd ⟨[u], []⟩ [(x, u)]) ∧
        ∀ base : Heap, (K w.params).In base → base.Ns mainGlobals mg → FnG l.prog w (K w.params) mg base (CX w) k fa fd [x] (sp w))
    (hsp : ∀ (w : World) (H : Hp) (a : Addr) (ns : List Int), ns.length ≤ n → Only H → Rd H a (.lst (ns.map V.int)) → sp w [.ref a] H (fun v _ => v = .bl true) fun _ _ _ => False)
    (hCX : ∀ (w : World) (H : Hp) (s : Shared) (e : Value) (s' : Shared), CX w [] H s (fun _ _ _ => False) e s' → False) :
    PySem.W.WalkO q loose XP YP l.row.toRowW d [] (fun f vs => PySem.call f vs) := by
  refine Att.attach_call hn hdf fun w s₀ s₁ mg mb fa o pm cd doc a vs ns G Y ho hd hcd hmg hobj hints hlen hg => ?_
  have KX := hY w _ Y
  obtain ⟨fd, hb, hF⟩ := F w mg fa _ KX G.T.g hmg
  exact law_callG (hnl w) KX G.T.g G.T.b G.T.builtins G.T.nolimit hg hobj hints (Nat.le_trans hlen hn2) hr hF hb (fun H hO hS => hsp w H a ns hlen hO hS) fun H e s' => hCX w H s₁ e s'
end L2
namespace L2.DL
open PySem PySem.Spec PyProof.Rows
section
variable {P : Program} {w : World} {K : PySem.W.Frag} {mg : Str → Option Value} {base : Heap}
/-- a def by its body, the guards known -/
theorem fun_okG {x qual : Str} {st : Stmt} {f : Addr} {fd : FuncData} {N ps : List Str} {k : Nat} {sp : Sp} (F : Fun K x qual st f fd) (S : FnScope N ps (defScope st)) (len : ∀ vs H Q E, sp vs H Q E → vs.length = ps.length)
    (hbody : ∀ (cdv : Value) (A : Around) (outer : List Env) (s : Shared) (H : Hp) (vs : List V) (Q : VK) (E : XK), Room k (A.deeper (envOfC qual (defScope st) s.heap.objs.size f cdv)) → A.guards = some [] → sp vs H Q E →
      ∃ t, PSs (cxOf (L2.CX P w) P w K mg base N qual (defScope st) f cdv A outer s H E) (defBody st) t ∧ t { nx := fun _ H' => Q .non H', rt := Q } (start N vs) H) : FnG P w K mg base (L2.CX P w) (k + 1) f fd ps sp := by
  obtain ⟨oc, od, kV, doc, pm, an, cdv, ct, osl, rfl, lk, hcd⟩ := F.ex
  refine ⟨len, fun A outer s H args us vs Q E hr hgd e0 hb r hsp => ?_⟩
  have hl := len _ _ _ _ hsp
  have KX : K.In s.heap := e0.mod.kin.keeps fun b o e => (e0.bs b o e).1
  have lim : s.heap.NoLimit := e0.mod.nolimit.keeps fun b o e => (e0.bs b o e).1
  have hkind : ∀ y ∈ ps.zip us, (defScope st).names.lookup y.1 = some .local ∨ ((defScope st).names.lookup y.1 = some .cell ∧ ((cellsFrom (s.heap.objs.size + 1) (defScope st).names []).lookup y.1).isSome = true) := fun ⟨n, v⟩ hy => by
    rcases S.par n (List.of_mem_zip hy).1 with q | q
    · exact .inl q
    · exact .inr ⟨q, PySem.W.cellsFrom_some _ _ _ (.inl q)⟩
  refine codeAny_call_function hr.depth (KX _ _ lk) rfl S.co S.gen rfl (PySem.W.codeRec_of KX hcd) (hb _ _ _ _ ?_)
  refine wpAny_newFunctionEnv_cells S.kind hkind fun env he s1 x => ?_
  subst he
  refine ⟨lim.keeps x.toInCall.keep, codeAny_func ?_⟩
  obtain ⟨t, ht, hq⟩ := hbody cdv A outer s H vs Q E (hr.deeper _) hgd hsp
  have I : Inv (cxOf (L2.CX P w) P w K mg base N qual (defScope st) f cdv A outer s H E) [] (start N vs) H s1 := inv_start S hr.hd e0 hl r x
  refine wpAny_mono (ht.run [] s1 (start N vs) H _ I hq) (fun fl s' hs => ?_) fun e s' hs => hs
  have fin : ∀ {σ' : St} {H' : Hp} {v : V} {u : Value}, Inv (cxOf (L2.CX P w) P w K mg base N qual (defScope st) f cdv A outer s H E) [] σ' H' s' → RelV v u → Q v H' → CE outer P w H s Q u s' :=
    fun {σ' H' v u} J rv q => ⟨v, H', J.os, J.bare, J.base, J.hok, rv, q⟩
  cases fl with
  | ret u =>
    obtain ⟨v, σ', H', J, rv, q⟩ := hs
    exact fin J rv q
  | next =>
    obtain ⟨σ', H', J, q⟩ := hs
    exact fin (v := V.non) (u := Value.none) J rfl q
  | brk =>
    obtain ⟨_, _, _, q⟩ := hs
    exact False.elim q
  | cont =>
    obtain ⟨_, _, _, q⟩ := hs
    exact False.elim q
end
/-- what a body may take as given of its surroundings -/
structure Gd (X : Cx) (k : Nat) : Prop where
  room : Room k X.A
  gd : X.A.guards = some []
/-- THE RULE for a def: its body as a plain program -/
theorem fn_okG {P : Program} {w : World} {K : PySem.W.Frag} {mg : Str → Option Value} {base : Heap} {x qual : Str} {st : Stmt} {f : Addr} {fd : FuncData} {N ps : List Str} {k : Nat} {m : MX Fl} (F : Fun K x qual st f fd) (S : FnScope N ps (defScope st))
    (hbody : ∀ (cdv : Value) (A : Around) (outer : List Env) (s : Shared) (H : Hp) (E : XK), Gd (cxOf (L2.CX P w) P w K mg base N qual (defScope st) f cdv A outer s H E) k →
      DSs (cxOf (L2.CX P w) P w K mg base N qual (defScope st) f cdv A outer s H E) (fun cls d _ H => E cls d H) (defBody st) m) : FnG P w K mg base (L2.CX P w) (k + 1) f fd ps (spG K mg ps.length (runF N.length ps.length m)) := by
  have hpl : ps.length ≤ N.length := by have := congrArg List.length S.pre; rw [List.length_take] at this; omega
  refine fun_okG F S (fun vs H Q E h => h.1) (fun cdv A outer s H vs Q E hr hgd h => ⟨_, hbody cdv A outer s H E ⟨hr, hgd⟩, ?_⟩)
  obtain ⟨hl, args, T, r, o, ηo, e, p⟩ := h
  unfold runF at e
  split at e
  · rename_i hc
    obtain ⟨hla, hall, _⟩ := hc
    have hst : start N vs = vs.map some ++ List.replicate (N.length - ps.length) none := by unfold start; rw [hl]
    refine ⟨args ++ List.replicate (N.length - ps.length) none, T, by rw [hst]; exact r.pad (by rw [hla, hl]) _, ?_⟩
    rw [hst]
    split at e
    · rename_i rv η' em
      cases e
      refine ⟨_, _, em, ?_⟩
      cases rv with
      | d y =>
        intro v σ' H' s' r' q
        obtain ⟨s2, r2, kA⟩ := mask_ok hl hall hla s' r'
        exact p v H' s2 r2 (Dq.less kA y v q)
      | l ys =>
        intro a ws σ' H' s' fr ea r' q no
        obtain ⟨s2, r2, kA⟩ := mask_ok hl hall hla s' r'
        obtain ⟨_, r3, kA3⟩ := mask_ok (T := T) hl hall hla s' (r'.lessT fun q z => .inl z)
        refine p a ws H' s2 (fr.elim (fun z => absurd z (not_free hall)) id) ea r2 (DqAll.less kA ys ws q) fun z => no (kA3 a z)
    · rename_i η' em
      cases e
      refine ⟨_, _, em, fun σ' H' s' r' => ?_⟩
      obtain ⟨s2, r2, kA⟩ := mask_ok hl hall hla s' r'
      exact p .non H' s2 r2 .non
    · rename_i nm d η' em
      cases e
      refine ⟨_, _, em, fun cls dd σ' H' s' r' q => ?_⟩
      obtain ⟨s2, r2, kA⟩ := mask_ok hl hall hla s' r'
      obtain ⟨C, a, v, h1, h2, h3, h4, h5⟩ := q
      exact p cls dd _ H' s2 r2 ⟨C, a, v, h1, h2, h3, h4, Dq.less kA d v h5⟩
    · cases e
  · cases e
/-! ### calls -/
/-- how keywords bind: the parameters' order among what is written -/
def pickL {α : Type} (z : α) (pick : List Nat) (l : List α) : List α := pick.map fun i => l.getD i z
theorem vals_getD {vs : List V} {us : List Value} (h : Vals vs us) (i : Nat) : RelV (vs.getD i .non) (us.getD i .none) := by
  induction h generalizing i with
  | nil => exact rfl
  | cons r t ih =>
    cases i with
    | zero => exact r
    | succ i => exact ih i
theorem vals_pick {vs : List V} {us : List Value} (h : Vals vs us) : ∀ pick : List Nat, Vals (pickL .non pick vs) (pickL .none pick us)
  | [] => .nil
  | i :: is => .cons (vals_getD h i) (vals_pick h is)
theorem DqAll.getD {K : Fg} {H : Hp} {O : Addr → Prop} {vs : List V} {ds : List PyData} (h : DqAll K H O vs ds) (i : Nat) : Dq K H O (vs.getD i .non) (ds.getD i .none) := by
  by_cases hi : i < ds.length
  · obtain ⟨d, e⟩ : ∃ d, ds[i]? = some d := ⟨_, List.getElem?_eq_getElem hi⟩
    obtain ⟨v, e2, q⟩ := h.get e
    rw [List.getD_eq_getElem?_getD, List.getD_eq_getElem?_getD, e, e2]
    exact q
  · have := h.length
    rw [List.getD_eq_getElem?_getD, List.getD_eq_getElem?_getD, List.getElem?_eq_none (by omega), List.getElem?_eq_none (by omega)]
    exact .non
theorem DqAll.pick {K : Fg} {H : Hp} {O : Addr → Prop} {vs : List V} {ds : List PyData} (h : DqAll K H O vs ds) : ∀ pick : List Nat, DqAll K H O (pickL .non pick vs) (pickL .none pick ds)
  | [] => .nil
  | i :: is => .cons (h.getD i) (DqAll.pick h is)
def KwB (fd : FuncData) (ps : List Str) (n : Nat) (ks : List Str) (pick : List Nat) : Prop :=
  ∀ us ws : List Value, us.length = n → ws.length = ks.length → bindArgs fd ⟨us, ks.zip ws⟩ = pure (ps.zip (pickL .none pick (us ++ ws)))
def LenM (n : Nat) (ml : MX (List PyData)) : Prop := ∀ η xs η1, ml η = some (.ok xs, η1) → xs.length = n
theorem LenM.nil : LenM 0 mNil := fun η xs η1 h => by cases h; rfl
theorem LenM.cons {n : Nat} {m : MX PyData} {ml : MX (List PyData)} (h : LenM n ml) : LenM (n + 1) (mCons m ml) := fun η xs η1 e => by
  unfold mCons mBind at e
  split at e
  · rename_i x η2 e2
    simp only at e
    split at e
    · rename_i ys η3 e3
      cases e
      rw [List.length_cons, h _ _ _ e3]
    · cases e
    · cases e
  · cases e
  · cases e
/-- the keywords' values -/
def DK (X : Cx) (W : WX) (kws : List Keyword) (m : MX (List PyData)) : Prop := PK X kws (tAr X.K X.mg W m)
section
variable {X : Cx} {W : WX} {a b e : Expr} {ma mb : MX PyData} {ml mk : MX (List PyData)} {pos p : Pos} {es : List Expr} {k n : Nat} {f : Addr} {fd : FuncData} {ps ks : List Str} {F : FS} {x : Str} {kws : List Keyword} {pick : List Nat} {nm : Option Str} {kpos : Pos}
theorem PK.imp {t t' : TA} (h : PK X kws t) (i : ∀ σ H Q, t' σ H Q → t σ H Q) : PK X kws t' := ⟨fun p pins s σ H Q I hw => h.run p pins s σ H Q I (i σ H Q hw)⟩
theorem dk_nil : DK X W [] mNil := PK.imp pk_nil fun σ H Q ⟨η, T, r0, n0⟩ => n0.pure [] H StepS.refl r0 .nil
theorem dk_cons {m : MX PyData} (ha : DE X W e m) (hr : DK X W kws ml) : DK X W (⟨nm, e, kpos⟩ :: kws) (mCons m ml) := by
  refine PK.imp (pk_cons ha hr) fun σ H Q ⟨η, T, r0, n0⟩ => ⟨η, T, r0, n0.bind fun x η1 e1 n1 v H1 s1 r1 q1 => ?_⟩
  refine ⟨η1, T, r1, (n1.later PAs.later s1).bind fun xs η2 e2 n2 vs H2 s2 r2 q2 => ?_⟩
  exact n2.pure (v :: vs) H2 s2 r2 (.cons (r1.old s2 q1) q2)
/-- a def's promise, ready to be called by name -/
structure Cal (X : Cx) (k : Nat) (x : Str) (n : Nat) (F : FS) : Prop where
  ex : ∃ (f : Addr) (fd : FuncData) (ps : List Str), ps.length = n ∧ FnG X.prog X.w X.K X.mg X.base (L2.CX X.prog X.w) k f fd ps (spG X.K X.mg n F) ∧ X.mg x = some (.ref f) ∧ PySem.W.keepIn X.K (.ref f) = true ∧ Binds X.K fd ps []
theorem pe_callG (C : Cal X k x n F) (gd : Gd X k) (tk : Takes X W) (hg : Gl X x)
    (ha : DA X W (e :: es) ml) (hdb : (x == ("__debug__" : Str)) = false := by decide) (he : starEach (e :: es) X.env = (false, eval e X.env) :: starEach es X.env := by rfl) (hpl : (backTo pos (starEach es X.env)).any (·.1) = false := by rfl) :
    PE X (.Call (.Name x p) (e :: es) [] pos) (fun σ H Q => tAr X.K X.mg W ml σ H fun vs H1 => spG X.K X.mg n F vs H1 Q (WE W σ)) := by
  obtain ⟨f, fd, ps, hn, G, hm, hk, hb⟩ := C.ex
  refine ⟨fun pins s σ H Q I h => ?_⟩
  refine wpAny_Call_Name_kw (ld_glob I hg hm ?_ hdb)
  refine PySem.W.callWith_K (h₀ := X.base) I.ok.mod.kin hk (thn (ha.run pos pins s σ H _ I h) fun us s1 ⟨vs, H1, I1, r, q⟩ => ⟨I1.kIn, ?_⟩) he hpl
  have hl : us.length = ps.length := by rw [← r.length]; exact G.len _ _ _ _ q
  have b := hb s1 us I1.kIn (by rw [List.append_nil]; exact hl)
  rw [List.append_nil] at b
  exact run_fnG G gd.room gd.gd (passAt tk σ) I1 b r q
theorem de_call (C : Cal X k x n F) (gd : Gd X k) (tk : Takes X W) (hg : Gl X x) (ha : DA X W (e :: es) ml) (hn : LenM n ml) (hdb : (x == ("__debug__" : Str)) = false := by decide) (he : starEach (e :: es) X.env = (false, eval e X.env) :: starEach es X.env := by rfl) (hpl : (backTo pos (starEach es X.env)).any (·.1) = false := by rfl) :
    DE X W (.Call (.Name x p) (e :: es) [] pos) (mCall (fnV F) ml) := de_call_gen (pe_callG C gd tk hg ha hdb he hpl) hn
theorem df_call (C : Cal X k x n F) (gd : Gd X k) (tk : Takes X W) (hg : Gl X x) (ha : DA X W (e :: es) ml) (hn : LenM n ml) (hdb : (x == ("__debug__" : Str)) = false := by decide) (he : starEach (e :: es) X.env = (false, eval e X.env) :: starEach es X.env := by rfl) (hpl : (backTo pos (starEach es X.env)).any (·.1) = false := by rfl) :
    DF X W (.Call (.Name x p) (e :: es) [] pos) (mCallL (fnV F) ml) := df_call_gen (pe_callG C gd tk hg ha hdb he hpl) hn
/-- a call with keywords -/
structure CalK (X : Cx) (k : Nat) (x : Str) (n : Nat) (F : FS) (nu : Nat) (ks : List Str) (pick : List Nat) : Prop where
  ex : ∃ (f : Addr) (fd : FuncData) (ps : List Str), ps.length = n ∧ FnG X.prog X.w X.K X.mg X.base (L2.CX X.prog X.w) k f fd ps (spG X.K X.mg n F) ∧ X.mg x = some (.ref f) ∧ PySem.W.keepIn X.K (.ref f) = true ∧ KwB fd ps nu ks pick
def mArgsK (pick : List Nat) (ml mk : MX (List PyData)) : MX (List PyData) := mBind ml fun xs => mBind mk fun ys => mPure (pickL .none pick (xs ++ ys))
theorem pe_callKG {nu : Nat} (C : CalK X k x n F nu ks pick) (gd : Gd X k) (tk : Takes X W) (hg : Gl X x)
    (ha : DA X W (e :: es) ml) (hu : LenM nu ml) (hkw : DK X W kws mk) (hw : LenM ks.length mk) (hall : (backToKw pos (keywordEach kws X.env)).all (·.1.isSome) = true := by rfl) (hks : (backToKw pos (keywordEach kws X.env)).filterMap (·.1) = ks := by rfl)
    (hdb : (x == ("__debug__" : Str)) = false := by decide) (he : starEach (e :: es) X.env = (false, eval e X.env) :: starEach es X.env := by rfl)
    (hpl : ((backTo pos (starEach (e :: es) X.env)).any (·.1) || (backToKw pos (keywordEach kws X.env)).any (·.1.isNone)) = false := by rfl) :
    PE X (.Call (.Name x p) (e :: es) kws pos) (fun σ H Q => tAr X.K X.mg W (mArgsK pick ml mk) σ H fun vs H1 => spG X.K X.mg n F vs H1 Q (WE W σ)) := by
  obtain ⟨f, fd, ps, hn, G, hm, hk, hb⟩ := C.ex
  refine ⟨fun pins s σ H Q I h => ?_⟩
  refine wpAny_Call_Name_kw (ld_glob I hg hm ?_ hdb)
  obtain ⟨η, T, r0, n0⟩ := h
  refine PySem.W.callWith_KW (h₀ := X.base) I.ok.mod.kin hk hall (thn (ha.run pos pins s σ H (fun vs H1 => vs.length = nu ∧ tAr X.K X.mg W mk σ H1 fun zs H2 => zs.length = ks.length ∧ spG X.K X.mg n F (pickL .non pick (vs ++ zs)) H2 Q (WE W σ)) I ⟨η, T, r0, ?_⟩) fun us s1 ⟨vs, H1, I1, r, lu, q⟩ => ?_) hpl he
  · refine n0.bind fun xs η1 e1 n1 vs H1 s1 r1 q1 => ⟨by rw [q1.length]; exact hu _ _ _ e1, η1, T, r1, ?_⟩
    refine (n1.later PAs.later s1).bind fun ys η2 e2 n2 zs H2 s2 r2 q2 => ⟨by rw [q2.length]; exact hw _ _ _ e2, ?_⟩
    exact n2.pure _ H2 s2 r2 (((r1.olds s2 q1).append q2).pick pick)
  · refine thn (hkw.run pos pins s1 σ H1 _ I1 q) fun ws s2 ⟨zs, H2, I2, rz, lw, q2⟩ => ⟨I2.kIn, ?_⟩
    rw [hks]
    exact run_fnG G gd.room gd.gd (passAt tk σ) I2 (.of_eq (hb us ws (by rw [← r.length]; exact lu) (by rw [← rz.length]; exact lw))) (vals_pick (Vals.append r rz) pick) q2
theorem pe_callK0G (C : CalK X k x n F 0 ks pick) (gd : Gd X k) (tk : Takes X W) (hg : Gl X x)
    (hkw : DK X W kws mk) (hw : LenM ks.length mk) (hall : (backToKw pos (keywordEach kws X.env)).all (·.1.isSome) = true := by rfl) (hks : (backToKw pos (keywordEach kws X.env)).filterMap (·.1) = ks := by rfl)
    (hdb : (x == ("__debug__" : Str)) = false := by decide)
    (hpl : (backToKw pos (keywordEach kws X.env)).any (·.1.isNone) = false := by rfl) :
    PE X (.Call (.Name x p) [] kws pos) (fun σ H Q => tAr X.K X.mg W (mArgsK pick mNil mk) σ H fun vs H1 => spG X.K X.mg n F vs H1 Q (WE W σ)) := by
  obtain ⟨f, fd, ps, hn, G, hm, hk, hb⟩ := C.ex
  refine ⟨fun pins s σ H Q I h => ?_⟩
  refine wpAny_Call_Name_kw (ld_glob I hg hm ?_ hdb)
  obtain ⟨η, T, r0, n0⟩ := h
  refine PySem.W.callWith_KW0 (h₀ := X.base) I.ok.mod.kin hk hall (thn (hkw.run pos pins s σ H (fun zs H2 => zs.length = ks.length ∧ spG X.K X.mg n F (pickL .non pick zs) H2 Q (WE W σ)) I ⟨η, T, r0, ?_⟩) fun ws s2 ⟨zs, H2, I2, rz, lw, q2⟩ => ⟨I2.kIn, ?_⟩) hpl
  · refine Nx.bind (P := PAs X.K X.mg) (k := fun ys => mPure (pickL .none pick ys)) (show Nx X.K X.mg W (PAs X.K X.mg) σ H η T _ (mBind mk _ η) from n0) fun ys η2 e2 n2 zs H2 s2 r2 q2 => ⟨by rw [q2.length]; exact hw _ _ _ e2, ?_⟩
    exact n2.pure _ H2 s2 r2 (q2.pick pick)
  · rw [hks]
    have b := hb [] ws rfl (by rw [← rz.length]; exact lw)
    exact run_fnG G gd.room gd.gd (passAt tk σ) I2 (.of_eq b) (vals_pick rz pick) q2
end
end L2.DL
namespace L2.DL
open PySem PySem.Spec PyProof.Rows
section
variable {X : Cx} {W : WX} {a b e : Expr} {ma mb : MX PyData} {ml mk : MX (List PyData)} {pos p py : Pos} {es : List Expr} {k n i : Nat} {F : FS} {x y : Str}
theorem pe_callIG (C : Cal X k x n F) (gd : Gd X k) (tk : Takes X W) (hg : Gl X x) (hv : PE X (.Name y py) (tVar i))
    (ha : DA X W es ml) (hdb : (x == ("__debug__" : Str)) = false := by decide) (he : starEach (.Name y py :: es) X.env = (false, eval (.Name y py) X.env) :: starEach es X.env := by rfl) (hpl : (backTo pos (starEach es X.env)).any (·.1) = false := by rfl) :
    PE X (.Call (.Name x p) (.Name y py :: es) [] pos) (fun σ H Q => ∃ v, σ[i]? = some (some v) ∧ tAr X.K X.mg W ml σ H fun vs H1 => spG X.K X.mg n F (v :: vs) H1 Q (WE W σ)) := by
  obtain ⟨f, fd, ps, hn, G, hm, hk, hb⟩ := C.ex
  refine ⟨fun pins s σ H Q I h => ?_⟩
  refine wpAny_Call_Name_kw (ld_glob I hg hm ?_ hdb)
  have hA : PA X (.Name y py :: es) (tCons (tVar i) (tAr X.K X.mg W ml)) := pa_cons hv ha he
  refine PySem.W.callWith_K (h₀ := X.base) I.ok.mod.kin hk (thn (hA.run pos pins s σ H (fun vs H1 => spG X.K X.mg n F vs H1 Q (WE W σ)) I h) fun us s1 ⟨vs, H1, I1, r, q⟩ => ⟨I1.kIn, ?_⟩) he hpl
  have hl : us.length = ps.length := by rw [← r.length]; exact G.len _ _ _ _ q
  have b := hb s1 us I1.kIn (by rw [List.append_nil]; exact hl)
  rw [List.append_nil] at b
  exact run_fnG G gd.room gd.gd (passAt tk σ) I1 b r q
theorem LenM.up {m : Nat} (h : LenM m ml) (e : m + 1 = n) : ∀ η xs η1, ml η = some (.ok xs, η1) → xs.length + 1 = n := fun η xs η1 z => by rw [h _ _ _ z]; exact e
theorem de_callI {m : Nat} (C : Cal X k x n F) (gd : Gd X k) (tk : Takes X W) (hg : Gl X x) (hv : PE X (.Name y py) (tVar i))
    (ha : DA X W es ml) (hn : LenM m ml) (hm : m + 1 = n) (hdb : (x == ("__debug__" : Str)) = false := by decide) (he : starEach (.Name y py :: es) X.env = (false, eval (.Name y py) X.env) :: starEach es X.env := by rfl) (hpl : (backTo pos (starEach es X.env)).any (·.1) = false := by rfl) :
    DE X W (.Call (.Name x p) (.Name y py :: es) [] pos) (mCallI F i ml) := de_callI_gen (pe_callIG C gd tk hg hv ha hdb he hpl) (hn.up hm)
theorem df_callI {m : Nat} (C : Cal X k x n F) (gd : Gd X k) (tk : Takes X W) (hg : Gl X x) (hv : PE X (.Name y py) (tVar i))
    (ha : DA X W es ml) (hn : LenM m ml) (hm : m + 1 = n) (hdb : (x == ("__debug__" : Str)) = false := by decide) (he : starEach (.Name y py :: es) X.env = (false, eval (.Name y py) X.env) :: starEach es X.env := by rfl) (hpl : (backTo pos (starEach es X.env)).any (·.1) = false := by rfl) :
    DF X W (.Call (.Name x p) (.Name y py :: es) [] pos) (mCallIL F i ml) := df_callI_gen (pe_callIG C gd tk hg hv ha hdb he hpl) (hn.up hm)

/-! ### repr -/
def reprD (d : PyData) : Option PyData := if d.showable = true ∧ d.hasDict = false ∧ d.depth ≤ 64 ∧ d.shown.length ≤ sizeLine then some (.str d.shown) else none
theorem call_reprD (gd : Gd X k) : CallR X (.builtin "repr") (fun xs H Q => ∃ v d, xs = [v] ∧ Dp X.K H v d ∧ (d.showable = true ∧ d.hasDict = false ∧ d.depth ≤ 64 ∧ d.shown.length ≤ sizeLine) ∧ Q (.str d.shown) H) := by
  intro pins s σ H xs us Q I r h
  obtain ⟨v, d, rfl, hd, ⟨h1, h2, h3, h4⟩, q⟩ := h
  obtain ⟨u, rfl, ru⟩ := vals1 r
  obtain ⟨as, rd⟩ := Dp.reads I d v u hd ru
  have un := gd.room.un
  cases hd with
  | non => cases rd; exact PySem.P.repr_of_none ⟨.str _, H, I.tok _, ⟨_, rfl⟩, q⟩
  | bl b => cases rd; exact PySem.P.repr_of_bool ⟨.str _, H, I.tok _, ⟨_, rfl⟩, q⟩
  | int i => cases rd; exact PySem.P.repr_of_int (of_decide_eq_true h1) ⟨.str _, H, I.tok _, ⟨_, rfl⟩, q⟩
  | str x => cases rd; exact PySem.P.repr_of_str ⟨.str _, H, I.tok _, ⟨_, rfl⟩, q⟩ h4
  | lst hs all =>
    cases ru
    exact PySem.repr_of_reads' rd h1 (fun e => by rw [h2] at e; cases e) gd.gd (by omega) (fun _ _ e => e) (fun h' tk tk2 hk => ⟨.str _, H, I.kept hk, ⟨_, rfl⟩, q⟩) h4
  | tup hs all =>
    cases ru
    exact PySem.repr_of_reads' rd h1 (fun e => by rw [h2] at e; cases e) gd.gd (by omega) (fun _ _ e => e) (fun h' tk tk2 hk => ⟨.str _, H, I.kept hk, ⟨_, rfl⟩, q⟩) h4
theorem reprD_ok {K : Fg} : CaB K (fun xs H Q => ∃ v d, xs = [v] ∧ Dp K H v d ∧ (d.showable = true ∧ d.hasDict = false ∧ d.depth ≤ 64 ∧ d.shown.length ≤ sizeLine) ∧ Q (.str d.shown) H) reprD := by
  intro x d z H O Q l q e kk
  unfold reprD at e
  split at e
  · rename_i h
    cases e
    exact ⟨x, d, rfl, q.dp, h, kk _ _ More.refl (.str _)⟩
  · cases e
end
end L2.DL
end
section
set_option Elab.async false
set_option linter.all false
set_option maxRecDepth 100000
namespace L2.DL
open PySem PySem.Spec PyProof.Rows
set_option autoImplicit false

/-! ### two places, both read at once -/
def OpB (K : Fg) (r : R2) (g : PyData → PyData → Option PyData) : Prop :=
  ∀ x y d e z H O Q, Lists H O → Bq K H O x d → Bq K H O y e → g d e = some z → (∀ v H', More H H' → Dq K H' O v z → Q v H') → r x y H Q
def OpBL (K : Fg) (r : R2) (g : PyData → PyData → Option (List PyData)) : Prop :=
  ∀ x y d e zs H O Q, Lists H O → Bq K H O x d → Bq K H O y e → g d e = some zs → (∀ a vs, H a = none → DqAll K H O vs zs → Q (.ref a) (upd H a (.lst vs))) → r x y H Q
theorem Bq.rd {K : Fg} {H : Hp} {O : Addr → Prop} {v : V} {ds : List PyData} (h : Bq K H O v (.list ds)) : ∃ a vs, v = .ref a ∧ Rd H a (.lst vs) ∧ DqAll K H O vs ds := by
  rcases h with h | ⟨a, vs, es, rfl, e, ea, q⟩
  · cases h with
    | lst no r all => exact ⟨_, _, rfl, r, all⟩
  · cases e
    exact ⟨a, vs, rfl, .inl ea, q⟩
theorem Bq.dq {K : Fg} {H : Hp} {O : Addr → Prop} {v : V} {d : PyData} (h : Bq K H O v d) (n : ∀ ds, d ≠ .list ds) : Dq K H O v d := by
  rcases h with h | ⟨a, vs, es, rfl, e, ea, q⟩
  · exact h
  · exact absurd e (n es)
section
variable {K : Fg}
theorem ixB_ok : OpB K (rIx K) ixD := by
  intro x y d e z H O Q l qx qy hg k
  cases d with
  | list ds =>
    obtain ⟨a, vs, rfl, r, q⟩ := qx.rd
    cases e with
    | int i =>
      have qi := qy.dq (fun _ z => by cases z)
      cases qi
      simp only [ixD] at hg
      obtain ⟨v, e1, qv⟩ := atI_all q hg
      exact .inl ⟨_, _, _, v, rfl, rfl, .inl r, e1, k _ _ More.refl qv⟩
    | _ => cases hg
  | _ =>
    cases e with
    | int i => exact ixD_ok _ _ _ _ z H O Q l (qx.dq fun _ z => by cases z) (qy.dq fun _ z => by cases z) hg k
    | _ => simp only [ixD] at hg <;> cases hg
theorem eqB_ok : OpB K (rEqD K) eqD := by
  intro x y d e z H O Q l qx qy hg k
  unfold eqD at hg
  split at hg
  · rename_i h
    cases hg
    exact ⟨d, e, qx.dp, qy.dp, h.1, h.2, k _ _ More.refl (.bl _)⟩
  · cases hg
theorem neB_ok : OpB K (rNeD K) neD := by
  intro x y d e z H O Q l qx qy hg k
  unfold neD at hg
  split at hg
  · rename_i h
    cases hg
    exact ⟨d, e, qx.dp, qy.dp, h.1, h.2, k _ _ More.refl (.bl _)⟩
  · cases hg
/-- flat data -/
def flatD : PyData → Bool
  | .none => true
  | .bool _ => true
  | .int _ => true
  | .str _ => true
  | _ => false
def inD (d e : PyData) : Option PyData := match e with
  | .list ds => if SeqAt.shaped d = true ∧ SeqAt.shaped (.list ds) = true then some (.bool (ds.any fun z => PyData.eqv z d)) else none
  | .tuple ds => if flatD d = true ∧ ds.all flatD = true then some (.bool (ds.any fun z => PyData.eqv z d)) else none
  | _ => none
def notInD (d e : PyData) : Option PyData := match e with
  | .list ds => if SeqAt.shaped d = true ∧ SeqAt.shaped (.list ds) = true then some (.bool (!ds.any fun z => PyData.eqv z d)) else none
  | .tuple ds => if flatD d = true ∧ ds.all flatD = true then some (.bool (!ds.any fun z => PyData.eqv z d)) else none
  | _ => none
theorem flatV_of {H : Hp} {O : Addr → Prop} {v : V} {d : PyData} (q : Dq K H O v d) (h : flatD d = true) : flatV v = true := by
  cases q <;> first | rfl | cases h
theorem eqV_of {H : Hp} {O : Addr → Prop} {v w : V} {d e : PyData} (q : Dq K H O v d) (q2 : Dq K H O w e) (h : flatD d = true) (h2 : flatD e = true) : eqV v w = PyData.eqv d e := by
  cases q <;> first | (cases h; done) | (cases q2 <;> first | (cases h2; done) | rfl | (simp [eqV, PyData.eqv]; done) | (rename_i a b; cases a <;> simp [eqV, PyData.eqv]; done) | (rename_i a b; cases b <;> simp [eqV, PyData.eqv]; done))
theorem flats_of {H : Hp} {O : Addr → Prop} : ∀ {ds : List PyData} {vs : List V}, DqAll K H O vs ds → ds.all flatD = true → vs.all flatV = true
  | _, _, .nil, _ => rfl
  | _, _, .cons q qs, h => by
    rw [List.all_cons, Bool.and_eq_true] at h ⊢
    exact ⟨flatV_of q h.1, flats_of qs h.2⟩
theorem inV_of {H : Hp} {O : Addr → Prop} {v : V} {d : PyData} (q : Dq K H O v d) (h : flatD d = true) : ∀ {ds : List PyData} {vs : List V}, DqAll K H O vs ds → ds.all flatD = true → inV v vs = ds.any fun z => PyData.eqv z d
  | _, _, .nil, _ => rfl
  | _, _, .cons q2 qs, h2 => by
    rw [List.all_cons, Bool.and_eq_true] at h2
    have ih := inV_of q h qs h2.2
    unfold inV at ih ⊢
    rw [List.any_cons, List.any_cons, ih, eqV_of q2 q h2.1 h]
theorem inB_ok : OpB K (fun x y H Q => rInD K x y H Q ∨ rIn K false x y H Q) inD := by
  intro x y d e z H O Q l qx qy hg k
  cases e with
  | list ds =>
    simp only [inD] at hg
    split at hg
    · rename_i h
      cases hg
      exact .inl ⟨d, ds, qx.dp, qy.dp, h.1, h.2, k _ _ More.refl (.bl _)⟩
    · cases hg
  | tuple ds =>
    simp only [inD] at hg
    split at hg
    · rename_i h
      cases hg
      have q2 := qy.dq fun _ z => by cases z
      have q1 := qx.dq fun ds z => by rw [z] at h; cases h.1
      cases q2 with
      | tup r all =>
        refine .inr ⟨_, _, rfl, .inr r, flatV_of q1 h.1, flats_of all h.2, ?_⟩
        rw [inV_of q1 h.1 all h.2]
        exact k _ _ More.refl (.bl _)
    · cases hg
  | _ => cases hg
theorem notInB_ok : OpB K (fun x y H Q => rNotInD K x y H Q ∨ rIn K true x y H Q) notInD := by
  intro x y d e z H O Q l qx qy hg k
  cases e with
  | list ds =>
    simp only [notInD] at hg
    split at hg
    · rename_i h
      cases hg
      exact .inl ⟨d, ds, qx.dp, qy.dp, h.1, h.2, k _ _ More.refl (.bl _)⟩
    · cases hg
  | tuple ds =>
    simp only [notInD] at hg
    split at hg
    · rename_i h
      cases hg
      have q2 := qy.dq fun _ z => by cases z
      have q1 := qx.dq fun ds z => by rw [z] at h; cases h.1
      cases q2 with
      | tup r all =>
        refine .inr ⟨_, _, rfl, .inr r, flatV_of q1 h.1, flats_of all h.2, ?_⟩
        rw [inV_of q1 h.1 all h.2]
        exact k _ _ More.refl (.bl _)
    · cases hg
  | _ => cases hg
end
/-- the first a name: read again behind the second part -/
def mAgain {α : Type} (i : Nat) (k : PyData → MX α) : MX α := fun η => match mBor i η with
  | some (.ok d, _) => k d η
  | _ => none
def mOpV (g : PyData → PyData → Option PyData) (i : Nat) (mb : MX PyData) : MX PyData := mAgain i fun _ => mBind mb fun y => mAgain i fun x => mLift (g x y)
def mOpVL (g : PyData → PyData → Option (List PyData)) (i : Nat) (mb : MX PyData) : MX (List PyData) := mAgain i fun _ => mBind mb fun y => mAgain i fun x => mLift (g x y)
section
variable {K : Fg} {mg : Str → Option Value} {W : WX} {σ : St} {H : Hp} {η η1 : EnvD} {T : Addr → Prop} {α β : Type}
theorem Nx.again {P : Ps α β} {Q : β} {i : Nat} {k : PyData → MX α} {H1 : Hp} (r : Rp K mg σ H1 η1 T) (h : Nx K mg W P σ H η T Q (mAgain i k η1)) : ∃ v d, σ[i]? = some (some v) ∧ Bq K H1 (Avd σ η1 T) v d ∧ Nx K mg W P σ H η T Q (k d η1) := by
  obtain ⟨o, η', e, p⟩ := h
  unfold mAgain mBor at e
  cases es : η1[i]? with
  | none => rw [es] at e; cases e
  | some s =>
    rw [es] at e
    cases s with
    | none => cases e
    | some s =>
      cases s with
      | val d =>
        obtain ⟨v, ev, q⟩ := r.val i d es
        exact ⟨v, d, ev, .inl q, o, η', e, p⟩
      | own b ds =>
        obtain ⟨a, vs, ea, e2, q, _⟩ := r.own i b ds es
        exact ⟨.ref a, .list ds, ea, .inr ⟨a, vs, ds, rfl, rfl, e2, q⟩, o, η', e, p⟩
      | exc nm d => cases e
end
section
variable {X : Cx} {W : WX} {a b e : Expr} {ma mb : MX PyData} {pos p : Pos} {i : Nat}
theorem de_opV_gen {r : R2} {g : PyData → PyData → Option PyData} (hg : OpB X.K r g) (h : PE X e (tOp r (tVar i) (tBo X.K X.mg W mb))) : DE X W e (mOpV g i mb) := by
  refine PE.imp h fun σ H Q ⟨η, T, r0, n0⟩ => ?_
  obtain ⟨v, d, ev, q, n1⟩ := n0.again r0
  refine ⟨v, ev, η, T, r0, n1.bind fun y η2 e2 n2 w H2 s2 r2 q2 => ?_⟩
  obtain ⟨v', d', ev', q', n3⟩ := n2.again r2
  rw [ev] at ev'; cases ev'
  obtain ⟨z, ez, p⟩ := n3.lift
  exact hg v w d' y z H2 (Avd σ η2 T) Q r2.lists q' q2 ez (p.meet s2 r2)
theorem df_opV_gen {r : R2} {g : PyData → PyData → Option (List PyData)} (hg : OpBL X.K r g) (h : PE X e (tOp r (tVar i) (tBo X.K X.mg W mb))) : DF X W e (mOpVL g i mb) := by
  refine PE.imp h fun σ H Q ⟨η, T, r0, n0⟩ => ?_
  obtain ⟨v, d, ev, q, n1⟩ := n0.again r0
  refine ⟨v, ev, η, T, r0, n1.bind fun y η2 e2 n2 w H2 s2 r2 q2 => ?_⟩
  obtain ⟨v', d', ev', q', n3⟩ := n2.again r2
  rw [ev] at ev'; cases ev'
  obtain ⟨z, ez, p⟩ := n3.lift
  exact hg v w d' y z H2 (Avd σ η2 T) Q r2.lists q' q2 ez fun a vs na q => p.meet s2 r2 na q
theorem de_opB_gen {r : R2} {g : PyData → PyData → Option PyData} (hg : OpB X.K r g) (h : PE X e (tOp r (tD X.K X.mg W ma) (tBo X.K X.mg W mb))) : DE X W e (mOp g ma mb) := by
  refine PE.imp h fun σ H Q ⟨η, T, r0, n0⟩ => ⟨η, T, r0, n0.bind fun x η1 e1 n1 v H1 s1 r1 q1 => ?_⟩
  refine ⟨η1, T, r1, (n1.later PD.later s1).bind fun y η2 e2 n2 w H2 s2 r2 q2 => ?_⟩
  obtain ⟨z, ez, p⟩ := n2.lift
  exact hg v w x y z H2 (Avd σ η2 T) Q r2.lists (.inl (r1.old s2 q1)) q2 ez (p.meet s2 r2)
theorem de_cmpB {op : CmpOp} {r : R2} {g : PyData → PyData → Option PyData} (ho : OpR X (compareOp op) r) (hg : OpB X.K r g) (ha : DE X W a ma) (hb : DB X W b mb) (hm : behindInMarks op b = false) : DE X W (.Compare a [op] [b] pos) (mOp g ma mb) := de_opB_gen hg (pe_cmpR ho ha hb hm)
theorem de_cmpV {op : CmpOp} {r : R2} {g : PyData → PyData → Option PyData} (ho : OpR X (compareOp op) r) (hg : OpB X.K r g) (ha : PE X a (tVar i)) (hb : DB X W b mb) (hm : behindInMarks op b = false) : DE X W (.Compare a [op] [b] pos) (mOpV g i mb) := de_opV_gen hg (pe_cmpR ho ha hb hm)
theorem de_ixV {r : R2} {g : PyData → PyData → Option PyData} (hr : IxR X r) (hg : OpB X.K r g) (ha : PE X a (tVar i)) (hb : DE X W b mb) (hs : PlainIx b) : DE X W (.Subscript a b pos) (mOpV g i mb) := de_opV_gen hg (pe_ix hr ha hb.toB hs)
/-! ### chains -/
def mChain (g g' : PyData → PyData → Option PyData) (ma mb mc : MX PyData) : MX PyData := mBind ma fun x => mBind mb fun y => mBind (mLift (g x y)) fun z => match z with
  | .bool true => mBind mc fun w => mLift (g' y w)
  | .bool false => mPure (.bool false)
  | _ => fun _ => none
theorem chain_gen {mc : MX PyData} {r r' : R2} {g g' : PyData → PyData → Option PyData} (hg : OpG X.K r g) (hg' : OpG X.K r' g') (h : PE X e (tChain r r' (tD X.K X.mg W ma) (tD X.K X.mg W mb) (tD X.K X.mg W mc))) : DE X W e (mChain g g' ma mb mc) := by
  refine PE.imp h fun σ H Q ⟨η, T, r0, n0⟩ => ⟨η, T, r0, n0.bind fun x η1 e1 n1 v H1 s1 r1 q1 => ?_⟩
  refine ⟨η1, T, r1, (n1.later PD.later s1).bind fun y η2 e2 n2 w H2 s2 r2 q2 => ?_⟩
  have n3 := n2.later PD.later s2
  have q1' := r1.old s2 q1
  cases ez : g x y with
  | none =>
    obtain ⟨_, _, eo, _⟩ := n3
    unfold mBind mLift at eo
    rw [ez] at eo; cases eo
  | some z =>
    refine hg v w x y z H2 (Avd σ η2 T) _ r2.lists q1' q2 ez fun u H3 k3 qz => ?_
    have n4 : Nx X.K X.mg W (PD X.K X.mg) σ H2 η2 T Q ((fun z => match z with
      | .bool true => mBind mc fun w => mLift (g' y w)
      | .bool false => mPure (.bool false)
      | _ => fun _ => none : PyData → MX PyData) z η2) := by
      unfold mBind at n3
      unfold mLift at n3
      rw [ez] at n3
      exact n3
    have s3 : StepS σ H2 η2 σ H3 η2 := StepS.more k3
    cases qz with
    | bl kb =>
      refine ⟨kb, rfl, ?_⟩
      cases kb with
      | true =>
        rw [if_pos rfl]
        refine ⟨η2, T, r2.more k3, (Nx.later PD.later s3 n4).bind fun u' η4 e4 n5 w' H4 s4 r4 q4 => ?_⟩
        obtain ⟨z', ez', p⟩ := n5.lift
        have rm := r2.more k3
        exact hg' w w' y u' z' H4 (Avd σ η4 T) Q r4.lists (rm.old s4 (r2.old s3 q2)) q4 ez' (p.meet s4 r4)
      | false =>
        rw [if_neg Bool.false_ne_true]
        exact n4.pure (.bl false) H3 s3 (r2.more k3) (.bl false)
    | _ => obtain ⟨_, _, z, _⟩ := n4; cases z
theorem de_chain {c : Expr} {mc : MX PyData} {op op' : CmpOp} {r r' : R2} {g g' : PyData → PyData → Option PyData} (ho : OpR X (compareOp op) r) (hg : OpG X.K r g) (ho' : OpR X (compareOp op') r') (hg' : OpG X.K r' g') (ha : DE X W a ma) (hb : DE X W b mb) (hc : DE X W c mc)
    (hm : lastMarks [op, op'] [b, c] = false := by with_unfolding_all rfl) : DE X W (.Compare a [op, op'] [b, c] pos) (mChain g g' ma mb mc) := chain_gen hg hg' (pe_chain ho ho' ha hb hc hm)
end

/-! ### slices -/
def POt (K : Fg) (mg : Str → Option Value) : Ps (Option Int) (Option Int → Hp → Prop) := fun σ H η T Q x η' => ∀ H', StepS σ H η σ H' η' → Rp K mg σ H' η' T → Q x H'
theorem POt.later {K : Fg} {mg : Str → Option Value} : Later (POt K mg) := fun σ H η T Q x η' H1 η1 s p H' s' r => p H' (s.trans s') r
def DO (X : Cx) (W : WX) (o : Option Expr) (m : MX (Option Int)) : Prop := PO X o (fun σ H Q => tG X.K X.mg W (POt X.K X.mg) m σ H Q)
theorem PO.imp {X : Cx} {e : Option Expr} {t t' : TO} (h : PO X e t) (i : ∀ σ H Q, t' σ H Q → t σ H Q) : PO X e t' := ⟨fun pins s σ H Q I hw => h.run pins s σ H Q I (i σ H Q hw)⟩
def mPart (m : MX PyData) : MX (Option Int) := mBind m fun x => match x with
  | .int i => mPure (some i)
  | _ => fun _ => none
def cutD {α : Type} (xs : List α) (lo hi : Option Int) : List α := (xs.drop (HT.sIx xs.length 0 lo)).take (HT.sIx xs.length xs.length hi - HT.sIx xs.length 0 lo)
theorem DqAll.cut {K : Fg} {H : Hp} {O : Addr → Prop} {vs : List V} {ds : List PyData} (q : DqAll K H O vs ds) (lo hi : Option Int) : DqAll K H O (cutV vs lo hi) (cutD ds lo hi) := by
  unfold cutV cutD
  rw [q.length]
  exact (q.drop _).take _
def SlB (K : Fg) (r : V → Option Int → Option Int → Hp → VK → Prop) (g : PyData → Option Int → Option Int → Option PyData) : Prop :=
  ∀ x d lo hi z H O Q, Lists H O → Bq K H O x d → g d lo hi = some z → (∀ v H', More H H' → Dq K H' O v z → Q v H') → r x lo hi H Q
def SlBL (K : Fg) (r : V → Option Int → Option Int → Hp → VK → Prop) (g : PyData → Option Int → Option Int → Option (List PyData)) : Prop :=
  ∀ x d lo hi zs H O Q, Lists H O → Bq K H O x d → g d lo hi = some zs → (∀ a vs, H a = none → DqAll K H O vs zs → Q (.ref a) (upd H a (.lst vs))) → r x lo hi H Q
def slD (d : PyData) (lo hi : Option Int) : Option PyData := match d with
  | .list ds => some (.list (cutD ds lo hi))
  | .tuple ds => some (.tuple (cutD ds lo hi))
  | .str z => if z.length ≤ sizeLine then some (.str (cutS z lo hi)) else none
  | _ => none
def slL (d : PyData) (lo hi : Option Int) : Option (List PyData) := match d with
  | .list ds => some (cutD ds lo hi)
  | _ => none
def rSl (K : Fg) : V → Option Int → Option Int → Hp → VK → Prop := fun x lo hi H Q => rSlL K x lo hi H Q ∨ rSlA K x lo hi H Q ∨ rSlS x lo hi H Q
theorem sl_all {X : Cx} : SlR X (rSl X.K) := SlR.or sl_list (SlR.or sl_tupA sl_str)
theorem cut_whole {α : Type} {xs : List α} {lo hi : Option Int} (h : HT.sIx xs.length 0 lo = 0 ∧ HT.sIx xs.length xs.length hi = xs.length) : cutD xs lo hi = xs := by
  unfold cutD
  rw [h.1, h.2]
  simp
theorem slB_ok {K : Fg} : SlB K (rSl K) slD := by
  intro x d lo hi z H O Q l q e k
  cases d with
  | list ds =>
    obtain ⟨a, vs, rfl, r, qa⟩ := q.rd
    cases e
    exact .inl ⟨a, vs, rfl, .inl r, fun p hp => k _ _ (More.upd hp) (Dq.fresh l hp (qa.cut lo hi))⟩
  | tuple ds =>
    have q2 := q.dq fun _ z => by cases z
    cases e
    cases q2 with
    | @tup a vs _ r all =>
      refine .inr (.inl ⟨a, vs, rfl, r, fun hw => ?_, fun _ p hp => k _ _ (More.upd hp) (.tup (.inl (.inl upd_same)) ((all.cut lo hi).more l (More.upd hp)))⟩)
      rw [all.length] at hw
      refine k _ _ More.refl ?_
      rw [cut_whole hw]
      exact .tup r all
  | str y =>
    have q2 := q.dq fun _ z => by cases z
    simp only [slD] at e
    split at e
    · rename_i hl
      cases e
      cases q2
      exact .inr (.inr ⟨y, rfl, hl, k _ _ More.refl (.str _)⟩)
    · cases e
  | _ => cases e
theorem slBL_ok {K : Fg} : SlBL K (rSlL K) slL := by
  intro x d lo hi z H O Q l q e k
  cases d with
  | list ds =>
    obtain ⟨a, vs, rfl, r, qa⟩ := q.rd
    cases e
    exact ⟨a, vs, rfl, .inl r, fun p hp => k _ _ hp (qa.cut lo hi)⟩
  | _ => cases e
def mSl {α : Type} (g : PyData → Option Int → Option Int → Option α) (ma : MX PyData) (ml mh : MX (Option Int)) : MX α := mBind ma fun x => mBind ml fun l => mBind mh fun h => mLift (g x l h)
def mSlV {α : Type} (g : PyData → Option Int → Option Int → Option α) (i : Nat) (ml mh : MX (Option Int)) : MX α := mAgain i fun _ => mBind ml fun l => mBind mh fun h => mAgain i fun x => mLift (g x l h)
section
variable {X : Cx} {W : WX} {e : Expr} {ma : MX PyData} {ml mh : MX (Option Int)} {lo hi : Option Expr} {pos p2 : Pos} {i : Nat}
theorem do_none : DO X W none (mPure none) := PO.imp po_none fun σ H Q ⟨η, T, r0, n0⟩ => n0.pure H StepS.refl r0
theorem do_some {m : MX PyData} (h : DE X W e m) : DO X W (some e) (mPart m) := PO.imp (po_some h) fun σ H Q ⟨η, T, r0, n0⟩ => ⟨η, T, r0, n0.bind fun x η1 e1 n1 v H1 s1 r1 q1 => by
  cases q1 with
  | int i => exact ⟨i, rfl, n1.pure H1 s1 r1⟩
  | _ => obtain ⟨_, _, z, _⟩ := n1; cases z⟩
theorem de_sl (he : DE X W e ma) (hl : DO X W lo ml) (hh : DO X W hi mh) : DE X W (.Subscript e (.Slice lo hi none p2) pos) (mSl slD ma ml mh) := by
  refine PE.imp (pe_slice sl_all he hl hh) fun σ H Q ⟨η, T, r0, n0⟩ => ⟨η, T, r0, n0.bind fun x η1 e1 n1 v H1 s1 r1 q1 => ?_⟩
  refine ⟨η1, T, r1, (n1.later PD.later s1).bind fun l η2 e2 n2 H2 s2 r2 => ?_⟩
  refine ⟨η2, T, r2, (n2.later PD.later s2).bind fun h η3 e3 n3 H3 s3 r3 => ?_⟩
  obtain ⟨z, ez, p⟩ := n3.lift
  exact slB_ok v x l h z H3 (Avd σ η3 T) Q r3.lists (.inl (r2.old s3 (r1.old s2 q1))) ez (p.meet s3 r3)
theorem df_sl (he : DE X W e ma) (hl : DO X W lo ml) (hh : DO X W hi mh) : DF X W (.Subscript e (.Slice lo hi none p2) pos) (mSl slL ma ml mh) := by
  refine PE.imp (pe_slice sl_list he hl hh) fun σ H Q ⟨η, T, r0, n0⟩ => ⟨η, T, r0, n0.bind fun x η1 e1 n1 v H1 s1 r1 q1 => ?_⟩
  refine ⟨η1, T, r1, (n1.later PL.later s1).bind fun l η2 e2 n2 H2 s2 r2 => ?_⟩
  refine ⟨η2, T, r2, (n2.later PL.later s2).bind fun h η3 e3 n3 H3 s3 r3 => ?_⟩
  obtain ⟨z, ez, p⟩ := n3.lift
  exact slBL_ok v x l h z H3 (Avd σ η3 T) Q r3.lists (.inl (r2.old s3 (r1.old s2 q1))) ez fun a vs na q => p.meet s3 r3 na q
theorem de_slV (he : PE X e (tVar i)) (hl : DO X W lo ml) (hh : DO X W hi mh) : DE X W (.Subscript e (.Slice lo hi none p2) pos) (mSlV slD i ml mh) := by
  refine PE.imp (pe_slice sl_all he hl hh) fun σ H Q ⟨η, T, r0, n0⟩ => ?_
  obtain ⟨v, d, ev, q, n1⟩ := n0.again r0
  refine ⟨v, ev, η, T, r0, n1.bind fun l η2 e2 n2 H2 s2 r2 => ?_⟩
  refine ⟨η2, T, r2, (n2.later PD.later s2).bind fun h η3 e3 n3 H3 s3 r3 => ?_⟩
  obtain ⟨v', d', ev', q', n4⟩ := n3.again r3
  rw [ev] at ev'; cases ev'
  obtain ⟨z, ez, p⟩ := n4.lift
  exact slB_ok v d' l h z H3 (Avd σ η3 T) Q r3.lists q' ez (p.meet s3 r3)
theorem df_slV (he : PE X e (tVar i)) (hl : DO X W lo ml) (hh : DO X W hi mh) : DF X W (.Subscript e (.Slice lo hi none p2) pos) (mSlV slL i ml mh) := by
  refine PE.imp (pe_slice sl_list he hl hh) fun σ H Q ⟨η, T, r0, n0⟩ => ?_
  obtain ⟨v, d, ev, q, n1⟩ := n0.again r0
  refine ⟨v, ev, η, T, r0, n1.bind fun l η2 e2 n2 H2 s2 r2 => ?_⟩
  refine ⟨η2, T, r2, (n2.later PL.later s2).bind fun h η3 e3 n3 H3 s3 r3 => ?_⟩
  obtain ⟨v', d', ev', q', n4⟩ := n3.again r3
  rw [ev] at ev'; cases ev'
  obtain ⟨z, ez, p⟩ := n4.lift
  exact slBL_ok v d' l h z H3 (Avd σ η3 T) Q r3.lists q' ez fun a vs na q => p.meet s3 r3 na q
end
end L2.DL
end
section
set_option Elab.async false
set_option linter.all false
set_option maxRecDepth 100000
set_option maxHeartbeats 4000000
namespace L2
open PySem PySem.Spec PyProof.Rows
/-! ### set(xs) of a list of ints: told as a sorted set -/
section
variable {P : Program} {w : World} {A : Around} {E : Value → Shared → Prop} {s : Shared}
theorem call_set_listI {l : Addr} {items : Array Value} (ns : List Int) {Q : Value → Shared → Prop} (hh : A.handled = none) (hl : s.heap.IsList l items) (hit : IntsAre items.toList ns) (hb : ns.length + 1 < scanBound)
    (h : ∀ (h' : Heap) (tk c : Nat), SetR w h' s.heap.objs.size (fun j => decide (j ∈ ns)) c → c ≤ ns.length → (∀ b o, s.heap.get? b = some o → h'.get? b = some o) → Q (.ref s.heap.objs.size) { s with heap := h', toks := tk }) :
    wpAny (model P w) A (call (.type "set") [.ref l]) Q E s := by
  have hisz : items.size = ns.length := by
    have q := IntsAre.length hit
    rw [Array.length_toList] at q
    exact q
  obtain ⟨c, tl, hmro⟩ := F.called_set.mro
  have hmade := F.called_set.made
  have hsub := F.called_set.sub
  refine wpAny_call (codeAny_of_tree ?_)
  show wpAny _ _ (callAny (.type "set") _) _ _ _
  refine wpAny_pure ⟨Code.quiet_builtin _ (by decide +kernel), codeAny_builtin F.entry_type_call ?_⟩
  rw [Around.under_plain (weight_type_call_type "set" [.ref l] []) rfl]
  have h1 := F.called_set.notType
  have h2 := F.called_set.canCreate
  have hct := F.typeCall_set_1 (.ref l)
  repeat (any_goals (first | assumption | wp_step))

  refine codeAny_mono (code_set_led1 (.ref l) (E := E) (Q₁ := fun obj s₁ => obj = .ref s.heap.objs.size ∧ s₁ = { s with heap := s.heap.push { cls := .type "set", dict := none, data := .set #[] 0 (.fresh 0 0 (!w.params.followText "set-order")) } }) ⟨rfl, rfl⟩) fun r s₁ hr => ?_
  cases r with
  | error e => exact hr
  | ok fl =>
    cases fl with
    | ret obj =>
      obtain ⟨rfl, rfl⟩ := hr
      have hS : (s.heap.push { cls := .type "set", dict := none, data := .set #[] 0 (.fresh 0 0 (!w.params.followText "set-order")) }).get? s.heap.objs.size = some { cls := .type "set", dict := none, data := .set #[] 0 (.fresh 0 0 (!w.params.followText "set-order")) } := Heap.get?_push_size _ rfl
      have hT : Shared.TypeIs { s with heap := s.heap.push { cls := .type "set", dict := none, data := .set #[] 0 (.fresh 0 0 (!w.params.followText "set-order")) } } (.ref s.heap.objs.size) "set" := ⟨_, hS, rfl⟩
      have hli := F.called_set.init.lookup
      have hbi := F.called_set.init.bind (.ref s.heap.objs.size)
      repeat (any_goals (first | assumption | wp_step))

      refine codeAny_mono (codeAny_call_builtin (R := wants (fun r s₂ => r = .none ∧ ∃ h' tk c, s₂ = { s with heap := h', toks := tk } ∧ SetR w h' s.heap.objs.size (fun j => decide (j ∈ ns)) c ∧ c ≤ ns.length ∧
          (∀ b o, s.heap.get? b = some o → h'.get? b = some o)) E) F.called_set.init.plain F.entry_set_init (check_set_init_1 hT ?_)) fun r₂ s₂ hr₂ => ?_
      · obtain ⟨ol, hol, hcl, nl, hdl⟩ := hl
        obtain ⟨ocls, odict, odata, oslots⟩ := ol
        simp only at hcl hdl
        subst hcl; subst hdl
        have hol' : (s.heap.push { cls := .type "set", dict := none, data := .set #[] 0 (.fresh 0 0 (!w.params.followText "set-order")) }).get? l = some { cls := .type "list", dict := odict, data := .seq items nl, slots := oslots } := Heap.get?_push_of_some _ hol
        have hsls := F.sub_list_set
        have hslf := F.sub_list_frozenset
        have hne : (Value.type "list" == Value.type "dict") = false := by decide
        have hl1 : (s.heap.push { cls := .type "set", dict := none, data := .set #[] 0 (.fresh 0 0 (!w.params.followText "set-order")) }).IsList l items := ⟨_, hol', rfl, nl, rfl⟩
        unfold Builtin.«set.__init__» noKeywords Builtin.Frozenset.updateFrom
        generalize hPI : pyIter = PI
        wp_walk
        subst hPI

        refine wpAny_pyIter_list hl1 ?_
        refine wpAny_bind (wpAny_runValue ?_)
        have hlS : l < s.heap.objs.size := Heap.lt_size hol
        have hh3 : A.in1.in1.in1.handled = none := by simp [hh]
        have hz1 : (s.heap.push { cls := .type "set", dict := none, data := .set #[] 0 (.fresh 0 0 (!w.params.followText "set-order")) }).objs.size = s.heap.objs.size + 1 := Heap.size_push ..
        have hneI : l ≠ (s.heap.push { cls := .type "set", dict := none, data := .set #[] 0 (.fresh 0 0 (!w.params.followText "set-order")) }).objs.size := by
          rw [Heap.size_push]; exact Nat.ne_of_lt (Nat.lt_succ_of_lt hlS)
        have hSf : s.heap.objs.size ∉ [(s.heap.push { cls := .type "set", dict := none, data := .set #[] 0 (.fresh 0 0 (!w.params.followText "set-order")) }).objs.size, l] := by
          rw [Heap.size_push]; simp only [List.mem_cons, List.mem_singleton, List.not_mem_nil, or_false, not_or]
          exact ⟨Nat.ne_of_lt (Nat.lt_succ_self _), Nat.ne_of_gt hlS⟩
        have hval : ∀ (i : Nat) (v : Value), items[i]? = some v → ∃ k t, ns[i]? = some k ∧ v = .int k t := fun i v hv => by
          have hi : i < ns.length := by rw [← hisz]; exact (Array.getElem?_eq_some_iff.mp hv).1
          obtain ⟨t, e⟩ := PyProof.Rows.IntsAre.int_at hit i v (by rw [Array.getElem?_toList]; exact hv)
          refine ⟨ns[i], t, List.getElem?_eq_getElem hi, ?_⟩
          rw [e, List.getD_eq_getElem?_getD, List.getElem?_eq_getElem hi] <;> rfl
        refine set_update_ints ((Walks.list hh3 _ l hneI items).toS) s.heap.objs.size
          hSf ns hisz hb hval (items.size - 0) 0 _ (by omega) (Nat.zero_le _)
          ⟨⟨_, Heap.get?_push_size _ rfl, rfl, rfl⟩, (hl1.push _)⟩ ?hS0 ?hR
        case hS0 =>
          have hget : ((s.heap.push { cls := .type "set", dict := none, data := .set #[] 0 (.fresh 0 0 (!w.params.followText "set-order")) }).push { cls := .type "list_iterator", data := .fields #[.ref l, .int 0 0] }).get? s.heap.objs.size
              = some { cls := .type "set", dict := none, data := .set #[] 0 (.fresh 0 0 (!w.params.followText "set-order")) } := Heap.get?_push_of_some _ hS
          exact ⟨0, Nat.le_refl 0, setR_new_at hget⟩
        case hR =>
          intro s' c' hm hc' hS'
          obtain ⟨h', g2, d', tk', os'⟩ := s'
          have eg : g2 = s.gens := hm.gens
          have ed : d' = s.drawn := hm.drawn
          have eo : os' = s.os := hm.os
          subst eg; subst ed; subst eo
          show wpAny _ _ _ _ _ _
          refine wpAny_pure ?_
          show wpAny _ _ (ret Value.none) _ _ _
          rw [hisz] at hc'
          refine wpAny_pure ⟨rfl, h', tk', c', rfl, hS', hc', fun b o e => ?_⟩
          have hb0 : b < s.heap.objs.size := Heap.lt_size e
          have hb1 : b ≠ s.heap.objs.size := Nat.ne_of_lt hb0
          have hb2 : b ≠ (s.heap.push { cls := .type "set", dict := none, data := .set #[] 0 (.fresh 0 0 (!w.params.followText "set-order")) }).objs.size := by
            rw [Heap.size_push]; exact Nat.ne_of_lt (Nat.lt_succ_of_lt hb0)
          exact hm.heap b o (by simp only [List.mem_cons, List.mem_singleton, List.not_mem_nil, or_false, not_or]; exact ⟨hb1, hb2⟩) (Heap.get?_push_of_some _ (Heap.get?_push_of_some _ e))

      · cases r₂ with
        | error e => exact hr₂
        | ok fl₂ =>
          cases fl₂ with
          | ret r =>
            obtain ⟨rfl, h', tk, c', rfl, hS', hc', hk'⟩ := hr₂
            repeat (any_goals (first | assumption | wp_step))
            exact h _ _ _ hS' hc' hk'
          | _ => exact hr₂.elim
    | _ => exact hr.elim

end
end L2
namespace L2.DL
open PySem PySem.Spec PyProof.Rows
set_option autoImplicit false
/-- the distinct ones, from the least on -/
def insU (x : Int) : List Int → List Int
  | [] => [x]
  | y :: ys => if x < y then x :: y :: ys else if x = y then y :: ys else y :: insU x ys
def sortU : List Int → List Int
  | [] => []
  | x :: xs => insU x (sortU xs)
theorem insU_mem {x k : Int} : ∀ {l : List Int}, k ∈ insU x l ↔ k = x ∨ k ∈ l
  | [] => by simp [insU]
  | y :: ys => by
    unfold insU
    split
    · simp
    · split
      · rename_i h; subst h; simp
      · rw [List.mem_cons, insU_mem, List.mem_cons]
        constructor
        · rintro (h | h | h)
          · exact .inr (.inl h)
          · exact .inl h
          · exact .inr (.inr h)
        · rintro (h | h | h)
          · exact .inr (.inl h)
          · exact .inl h
          · exact .inr (.inr h)
theorem sortU_mem {k : Int} : ∀ {l : List Int}, k ∈ sortU l ↔ k ∈ l
  | [] => by simp [sortU]
  | x :: xs => by rw [sortU, insU_mem, sortU_mem, List.mem_cons]
theorem insU_lt {x : Int} : ∀ {l : List Int}, l.Pairwise (· < ·) → (insU x l).Pairwise (· < ·)
  | [], _ => by simp [insU]
  | y :: ys, h => by
    unfold insU
    have h' := List.pairwise_cons.mp h
    split
    · rename_i hx
      refine List.pairwise_cons.mpr ⟨fun z hz => ?_, h⟩
      rcases List.mem_cons.mp hz with e | e
      · omega
      · have := h'.1 z e; omega
    · split
      · exact h
      · rename_i h1 h2
        refine List.pairwise_cons.mpr ⟨fun z hz => ?_, insU_lt h'.2⟩
        rcases insU_mem.mp hz with e | e
        · omega
        · exact h'.1 z e
theorem sortU_lt : ∀ {l : List Int}, (sortU l).Pairwise (· < ·)
  | [] => .nil
  | x :: xs => insU_lt sortU_lt
theorem sortU_ext : ∀ {l m : List Int}, l.Pairwise (· < ·) → m.Pairwise (· < ·) → (∀ k, k ∈ l ↔ k ∈ m) → l = m
  | [], [], _, _, _ => rfl
  | [], y :: ys, _, _, e => by have := (e y).mpr (List.mem_cons_self); simp at this
  | x :: xs, [], _, _, e => by have := (e x).mp (List.mem_cons_self); simp at this
  | x :: xs, y :: ys, h, h2, e => by
    have a := List.pairwise_cons.mp h
    have b := List.pairwise_cons.mp h2
    have exy : x = y := by
      have p := (e x).mp List.mem_cons_self
      have q := (e y).mpr List.mem_cons_self
      rcases List.mem_cons.mp p with p | p
      · exact p
      · rcases List.mem_cons.mp q with q | q
        · exact q.symm
        · have := a.1 y q
          have := b.1 x p
          omega
    subst exy
    rw [sortU_ext a.2 b.2 fun k => ?_]
    constructor
    · intro hk
      rcases List.mem_cons.mp ((e k).mp (List.mem_cons_of_mem _ hk)) with z | z
      · have := a.1 k hk; omega
      · exact z
    · intro hk
      rcases List.mem_cons.mp ((e k).mpr (List.mem_cons_of_mem _ hk)) with z | z
      · have := b.1 k hk; omega
      · exact z
theorem sortU_eq {l ns : List Int} (h : ns.Pairwise (· < ·)) (e : ∀ k, k ∈ ns ↔ k ∈ l) : ns = sortU l := sortU_ext h sortU_lt fun k => (e k).trans sortU_mem.symm
theorem sortU_card {l ks : List Int} (h : ks.Nodup) (e : ∀ k, k ∈ ks ↔ k ∈ l) : ks.length = (sortU l).length := by
  have n2 : (sortU l).Nodup := (sortU_lt (l := l)).imp fun h => by omega
  exact ((List.perm_ext_iff_of_nodup h n2).mpr fun k => (e k).trans sortU_mem.symm).length_eq
def intsD : List PyData → Option (List Int)
  | [] => some []
  | .int i :: r => (intsD r).map (i :: ·)
  | _ :: _ => none
theorem intsD_some : ∀ {ds : List PyData} {ns : List Int}, intsD ds = some ns → ds = ns.map PyData.int
  | [], _, h => by cases h; rfl
  | .int i :: r, ns, h => by
    simp only [intsD] at h
    obtain ⟨m, e, rfl⟩ := Option.map_eq_some_iff.mp h
    rw [intsD_some e]; rfl
  | .none :: _, _, h => by cases h
  | .bool _ :: _, _, h => by cases h
  | .str _ :: _, _, h => by cases h
  | .list _ :: _, _, h => by cases h
  | .tuple _ :: _, _, h => by cases h
  | .dict _ :: _, _, h => by cases h
theorem intsD_map : ∀ ns : List Int, intsD (ns.map PyData.int) = some ns
  | [] => rfl
  | n :: ns => by show (intsD (ns.map PyData.int)).map (n :: ·) = _; rw [intsD_map ns]; rfl
theorem ints_vs {K : Fg} {H : Hp} {O : Addr → Prop} : ∀ {ns : List Int} {vs : List V}, DqAll K H O vs (ns.map PyData.int) → vs = ns.map V.int
  | [], _, .nil => rfl
  | n :: ns, _, .cons q qs => by
    cases q
    rw [ints_vs qs]; rfl
theorem ints_dq {K : Fg} {H : Hp} {O : Addr → Prop} : ∀ (ns : List Int), DqAll K H O (ns.map V.int) (ns.map PyData.int)
  | [] => .nil
  | n :: ns => .cons (.int n) (ints_dq ns)
/-- sorted(set(xs)), len(set(xs)), xs a list or a tuple of ints -/
def setOfD (d : PyData) : Option (List Int) := match d with
  | .list ds => (intsD ds).bind fun ns => if ns.length < 4000 then some (sortU ns) else none
  | .tuple ds => (intsD ds).bind fun ns => if ns.length < 4000 then some (sortU ns) else none
  | _ => none
def sortedSetD (d : PyData) : Option (List PyData) := (setOfD d).bind fun ns => if ns.length < 64 then some (ns.map .int) else none
def lenSetD (d : PyData) : Option PyData := (setOfD d).map fun ns => .int (ns.length : Nat)
section
variable {X : Cx} {W : WX} {a : Expr} {ma : MX PyData} {p p2 q pos : Pos}
theorem set_any {pins : List (Addr × Obj)} {σ : St} {H : Hp} {s : Shared} {v : V} {u : Value} {O : Addr → Prop} {d : PyData} {ns : List Int} {A : Around} {E : Value → Shared → Prop} {Q : Value → Shared → Prop} (I : Inv X pins σ H s) (hh : A.handled = none) (rv : RelV v u) (qd : Bq X.K H O v d) (e : setOfD d = some ns)
    (h : ∀ (h' : Heap) (tk : Nat) (S : Int → Bool), SetR X.w h' s.heap.objs.size S ns.length → (∀ k, S k = true ↔ k ∈ ns) → (∀ b o, s.heap.get? b = some o → h'.get? b = some o) → Q (.ref s.heap.objs.size) { s with heap := h', toks := tk }) :
    wpAny (model X.prog X.w) A (call (.type "set") [u]) Q E s := by
  have fin : ∀ {ms : List Int}, sortU ms = ns → ∀ (h' : Heap) (tk c : Nat), SetR X.w h' s.heap.objs.size (fun j => decide (j ∈ ms)) c → c ≤ ms.length → (∀ b o, s.heap.get? b = some o → h'.get? b = some o) → Q (.ref s.heap.objs.size) { s with heap := h', toks := tk } := fun {ms} ems h' tk c R hc k => by
    have hlen : c = ns.length := by
      obtain ⟨o, es, ep, t, ho, hex, hd, g, nd, hm, hb, hf, hn, hr, hl⟩ := R
      rw [← ems, ← hn]
      have z := sortU_card nd (l := ms) fun k => by rw [← hm k]; simp
      simpa using z
    subst hlen
    exact h h' tk _ R (fun k => by rw [← ems]; simp [sortU_mem]) k
  unfold setOfD at e
  cases d with
  | list ds =>
    obtain ⟨ms, em, e2⟩ := Option.bind_eq_some_iff.mp e
    split at e2
    · rename_i hlt
      have ems : sortU ms = ns := Option.some.inj e2
      obtain rfl := intsD_some em
      obtain ⟨l, vs, rfl, r, qa⟩ := qd.rd
      obtain rfl := ints_vs qa
      obtain ⟨its, rv', pl, hz⟩ := I.list (.inl r)
      obtain rfl : u = Value.ref l := rv
      exact call_set_listI ms hh pl.isList (by simpa using rv'.ints) (by unfold scanBound; omega) (fin ems)
    · cases e2
  | tuple ds =>
    obtain ⟨ms, em, e2⟩ := Option.bind_eq_some_iff.mp e
    split at e2
    · rename_i hlt
      have ems : sortU ms = ns := Option.some.inj e2
      obtain rfl := intsD_some em
      have qd' := qd.dq fun _ z => by cases z
      cases qd' with
      | @tup l vs _ r qa =>
        obtain rfl := ints_vs qa
        obtain ⟨its, rv', pl, hz⟩ := I.tuple r
        obtain rfl : u = Value.ref l := rv
        exact call_set_tupI ms hh pl (by simpa using rv'.ints) (by unfold scanBound; omega) (fin ems)
    · cases e2
  | _ => cases e
theorem df_sortedSet (hc : X.calm = true) (hg : Gl X "sorted") (hm : X.mg "sorted" = none) (hg2 : Gl X "set") (hm2 : X.mg "set" = none) (ha : DB X W a ma)
    (na : starEach [a] X.env = (false, eval a X.env) :: starEach [] X.env := by rfl) : DF X W (.Call (.Name "sorted" p) [.Call (.Name "set" p2) [a] [] q] [] pos) (mUnL sortedSetD ma) := by
  refine ⟨fun pins s σ H Q I h => ?_⟩
  refine Call_ (ld_blt I hg hm (by first | exact PyProof.Rows.boot_sorted | exact boot_sorted | rfl) ?_)
  refine PyProof.Rows.callWith_builtin1 (PyProof.Rows.args_cons ?_ rfl) rfl rfl
  refine Call_ (ld_blt I hg2 hm2 (by first | exact PyProof.Rows.boot_set | exact boot_set | rfl) ?_)
  obtain ⟨η, T, r0, n0⟩ := h
  refine PyProof.Rows.callWith_type1 (PyProof.Rows.args_cons (thn (ha.run pins s σ H (fun v H1 => ∃ O d ns, Lists H1 O ∧ Bq X.K H1 O v d ∧ setOfD d = some ns ∧ ns.length < 64 ∧ ∀ a' vs, H1 a' = none → DqAll X.K H1 O vs (ns.map .int) → Q (.ref a') (upd H1 a' (.lst vs))) I ⟨η, T, r0, n0.bind fun x η1 e1 n1 v H1 s1 r1 q1 => ?_⟩) fun u s1 ⟨v, H1, I1, r1, O, d, ns, hl, qd, e, h64, kk⟩ => PyProof.Rows.args_nil ?_) na) na rfl
  · obtain ⟨zs, ez, pz⟩ := n1.lift
    unfold sortedSetD at ez
    obtain ⟨ns, ens, ez⟩ := Option.bind_eq_some_iff.mp ez
    split at ez
    · rename_i h64
      cases ez
      exact ⟨_, x, ns, r1.lists, q1, ens, h64, fun a' vs na q => pz.meet s1 r1 na q⟩
    · cases ez
  · refine set_any I1 (I1.ok.hd hc) r1 qd e fun h' tk S R hS k => PyProof.Rows.args_nil ?_
    refine sorted_set R (I1.ok.hd hc) h64 fun s' p out c ns' k2 g o hp hg hi hs hm hl => ?_
    have en : ns' = ns := by
      have hn : ns = sortU ns := sortU_eq (by
        unfold setOfD at e
        cases d with
        | list ds =>
          obtain ⟨ms, em, e2⟩ := Option.bind_eq_some_iff.mp e
          split at e2
          · cases e2; exact sortU_lt
          · cases e2
        | tuple ds =>
          obtain ⟨ms, em, e2⟩ := Option.bind_eq_some_iff.mp e
          split at e2
          · cases e2; exact sortU_lt
          · cases e2
        | _ => cases e) fun k => Iff.rfl
      rw [hn]
      exact sortU_eq hs fun k => (hm k).trans (hS k)
    subst en
    have I2 : Inv X pins σ H1 { s1 with heap := h', toks := tk } := I1.kept k
    have hlen : (ns'.map V.int).length ≤ sizeLine := by rw [List.length_map, sizeLine_eq]; omega
    have hn : H1 p = none := I2.hok.fresh hp
    have J : Inv X pins σ (upd H1 p (.lst (ns'.map V.int))) { s1 with heap := s'.heap, gens := s'.gens, drawn := s'.drawn, toks := s'.toks } :=
      Inv.call (s := { s1 with heap := h', toks := tk }) I2 (ch := []) (Un.laid k2 hp hn) (I2.hok.laid k2 hp ⟨hlen, out.toList, c, vals_of_ints hi, hg⟩) (by rw [g]; exact I1.bare) (fun _ z => nomatch z)
    have e : s' = { s1 with heap := s'.heap, gens := s'.gens, drawn := s'.drawn, toks := s'.toks } := by
      cases s'
      cases s1
      cases o
      rfl
    rw [e]
    exact ⟨.ref p, _, J, rfl, kk p _ hn (ints_dq ns')⟩
theorem de_lenSet (hc : X.calm = true) (hg : Gl X "len") (hm : X.mg "len" = none) (hg2 : Gl X "set") (hm2 : X.mg "set" = none) (ha : DB X W a ma)
    (na : starEach [a] X.env = (false, eval a X.env) :: starEach [] X.env := by rfl) : DE X W (.Call (.Name "len" p) [.Call (.Name "set" p2) [a] [] q] [] pos) (mUn lenSetD ma) := by
  refine ⟨fun pins s σ H Q I h => ?_⟩
  refine Call_ (ld_blt I hg hm (by first | exact PySem.boot_len | exact boot_len) ?_)
  refine PyProof.Rows.callWith_builtin1 (PyProof.Rows.args_cons ?_ rfl) rfl rfl
  refine Call_ (ld_blt I hg2 hm2 (by first | exact PyProof.Rows.boot_set | exact boot_set | rfl) ?_)
  obtain ⟨η, T, r0, n0⟩ := h
  refine PyProof.Rows.callWith_type1 (PyProof.Rows.args_cons (thn (ha.run pins s σ H (fun v H1 => ∃ O d ns, Lists H1 O ∧ Bq X.K H1 O v d ∧ setOfD d = some ns ∧ Q (.int (ns.length : Nat)) H1) I ⟨η, T, r0, n0.bind fun x η1 e1 n1 v H1 s1 r1 q1 => ?_⟩) fun u s1 ⟨v, H1, I1, r1, O, d, ns, hl, qd, e, kk⟩ => PyProof.Rows.args_nil ?_) na) na rfl
  · obtain ⟨zs, ez, pz⟩ := n1.lift
    unfold lenSetD at ez
    obtain ⟨ns, ens, rfl⟩ := Option.map_eq_some_iff.mp ez
    exact ⟨_, x, ns, r1.lists, q1, ens, pz.meet s1 r1 _ _ More.refl (.int _)⟩
  · refine set_any I1 (I1.ok.hd hc) r1 qd e fun h' tk S R hS k => PyProof.Rows.args_nil ?_
    obtain ⟨o, es, ep, t, ho, hex, hd, g, nd, hm', hb, hf, hn, hr, hl'⟩ := R
    have I2 : Inv X pins σ H1 { s1 with heap := h', toks := tk } := I1.kept k
    refine call_len_set ho hex hd hf (by have z := hb; unfold scanBound at z; omega) ⟨.int ns.length, H1, I2.tok _, ⟨_, by rw [hn]⟩, kk⟩
end
end L2.DL
end
section
set_option Elab.async false
set_option linter.all false
set_option maxRecDepth 100000
/-! sorted(t) of a tuple -/
namespace PyProof.Rows
open PySem
section
variable {prog : Program} {w : World} {A : Around} {E : Value → Shared → Prop} {s : Shared}
theorem collect_tup {l : Addr} {vs : List Value} {Q : List Value → Shared → Prop} (hl : s.heap.IsTuple l vs.toArray)
    (h : Q vs { s with heap := (s.heap.push (seqObj "list" #[] 0)).update s.heap.objs.size (Obj.mapSeq (· ++ vs.toArray)) }) (hsz : vs.length ≤ sizeLine := by size_fits) :
    wpAny (model prog w) A (collect (.ref l)) Q E s := by
  obtain ⟨o, ho, hc, n, hd⟩ := id hl
  unfold collect
  refine wpAny_bind (wpAny_runValue (codeAny_builtin entry_proto_collect' ?_))
  show wpAny _ _ (do again (.builtin "list.__iadd__" ⟨[← newList [], .ref l], []⟩)) _ _ s
  refine wpAny_bind (wpAny_newList (wpAny_pure ⟨Code.quiet_builtin _ (by decide +kernel), codeAny_builtin entry_list_iadd' ?_⟩))
  show wpAny _ _ (Builtin.List.listExtendWith (.ref s.heap.objs.size) (.ref l) (.ref s.heap.objs.size)) _ _ { s with heap := s.heap.push (seqObj "list" #[] 0) }
  unfold Builtin.List.listExtendWith
  have ho' : (s.heap.push (seqObj "list" #[] 0)).get? l = some o := Heap.get?_push_of_some _ ho
  refine wpAny_bind (wpAny_typeOf (T := "tuple") ⟨o, ho', hc⟩ ?_)
  have ht : (Value.type "tuple" == Value.type "tuple") = true := by rfl
  rw [if_pos (by rw [ht]; simp)]
  refine wpAny_bind (listItems_at ho' hd ?_)
  refine wpAny_bind (listItems_at (xs := #[]) (n := 0) (Heap.get?_push_size _ rfl) rfl ?_)
  rw [if_neg (by simp)]
  refine wpAny_bind (listUpdate_at (xs := #[]) (n := 0) (Heap.get?_push_size _ rfl) rfl ?_ (Nat.zero_le _) (by show (#[] ++ vs.toArray).size ≤ sizeLine + 1; simp only [Array.size_append, List.size_toArray, List.length_nil]; omega))
  refine wpAny_pure ?_
  show wpAny (model prog w) A (do
      let o ← load s.heap.objs.size
      match o.data with
      | .seq xs _ => pure xs.toList
      | _ => unsupported "internal:collect") Q E { s with heap := (s.heap.push (seqObj "list" #[] 0)).update s.heap.objs.size (Obj.mapSeq (· ++ vs.toArray)) }
  refine wpAny_bind (wpAny_load (get?_update_seq (Heap.get?_push_size _ rfl) _) ?_)
  show wpAny _ _ (pure ((#[] : Array Value) ++ vs.toArray).toList) Q E _
  rw [show ((#[] : Array Value) ++ vs.toArray).toList = vs by simp]
  exact wpAny_pure h

end
end PyProof.Rows
namespace SrtO
open PySem PyProof.Rows Srt
section
variable {prog : Program} {w : World} {A : Around} {E : Value → Shared → Prop} {s : Shared}
theorem sorted_ordT {l : Addr} {vs : List Value} {ltv : Value → Value → Bool} {Q : Value → Shared → Prop} (O : Swo ltv) (hl : s.heap.IsTuple l vs.toArray) (hz : vs.length ≤ sizeLine)
    (hS : 2 ≤ vs.length → ∀ (h₁ : Heap) (a : Addr), h₁.get? a = some (seqObj "list" vs.toArray 0) → (∀ b o, s.heap.get? b = some o → b ≠ a ∧ h₁.get? b = some o) → SortableO prog w A.in1.in1 { s with heap := h₁ } a vs ltv)
    (h : ∀ out : List Value, Srtd ltv out → Stb ltv out vs → Q (.ref (s.heap.objs.size + 1)) { s with heap := sortedAll s.heap vs out.toArray }) :
    wpAny (model prog w) A (call (.builtin "sorted") [.ref l]) Q E s := by
  refine Calls.call_function_entry kind_sorted plain_sorted entry_sorted (args_sorted1 _) ?_
  unfold Builtin.«sorted»
  refine wpAny_bind (m := checkCount "sorted" 1 1 _) (wpAny_pure ?_)
  refine wpAny_bind (collect_tup hl ?_ hz)
  refine wpAny_bind (wpAny_newList ?_ hz)
  have hsz : ((s.heap.push (seqObj "list" #[] 0)).update s.heap.objs.size (Obj.mapSeq (· ++ vs.toArray))).objs.size = s.heap.objs.size + 1 := by
    rw [Heap.size_update, size_push']
  have hoL : (((s.heap.push (seqObj "list" #[] 0)).update s.heap.objs.size (Obj.mapSeq (· ++ vs.toArray))).push (seqObj "list" vs.toArray 0)).get? (s.heap.objs.size + 1) = some (seqObj "list" vs.toArray 0) := by
    rw [← hsz]; exact Heap.get?_push_size _ rfl
  have keep : ∀ b o, s.heap.get? b = some o → b ≠ s.heap.objs.size + 1 ∧ (((s.heap.push (seqObj "list" #[] 0)).update s.heap.objs.size (Obj.mapSeq (· ++ vs.toArray))).push (seqObj "list" vs.toArray 0)).get? b = some o := fun b o q => by
    have hlt : b < s.heap.objs.size := Heap.lt_size q
    refine ⟨Nat.ne_of_lt (Nat.lt_succ_of_lt hlt), Heap.get?_push_of_some _ ?_⟩
    rw [Heap.get?_update_ne _ _ _ _ (Nat.ne_of_lt hlt)]
    exact Heap.get?_push_of_some _ q
  show wpAny _ _ _ _ _ { s with heap := ((s.heap.push (seqObj "list" #[] 0)).update s.heap.objs.size (Obj.mapSeq (· ++ vs.toArray))).push (seqObj "list" vs.toArray 0) }
  rw [hsz]
  refine wpAny_bind (wpAny_holding (wpAny_call_entry slot_list_sort ⟨_, hoL, rfl⟩ entry_list_sort (list_sort_ord O hoL hz (fun h2 => hS h2 _ _ hoL keep) fun out hs hb => ⟨_, rfl, ?_⟩) (args_list_sort _)))
  exact wpAny_pure ⟨_, rfl, h out hs hb⟩

end
end SrtO
namespace L2.DL
open PySem PySem.Spec PyProof.Rows
set_option autoImplicit false

/-! ### built-ins by data -/
section
variable {K : Fg}
def lenD : PyData → Option PyData
  | .list ds => some (.int (ds.length : Nat))
  | .tuple ds => some (.int (ds.length : Nat))
  | .str z => if z.length ≤ sizeLine then some (.int (z.length : Nat)) else none
  | _ => none
theorem lenD_ok : CaB K (fun xs H Q => ∃ x n, xs = [x] ∧ LenV K x H n ∧ Q (.int n) H) lenD := by
  intro x d z H O Q l q e k
  cases d with
  | list ds =>
    obtain ⟨a, vs, rfl, r, qa⟩ := q.rd
    cases e
    exact ⟨_, ds.length, rfl, .inl ⟨vs, .inl r, qa.length.symm⟩, k _ _ More.refl (.int _)⟩
  | tuple ds =>
    have q2 := q.dq fun _ z => by cases z
    cases e
    cases q2 with
    | @tup a vs _ r qa => exact ⟨_, ds.length, rfl, .inr ⟨vs, r, qa.length.symm⟩, k _ _ More.refl (.int _)⟩
  | str y =>
    have q2 := q.dq fun _ z => by cases z
    simp only [lenD] at e
    split at e
    · rename_i hl
      cases e
      cases q2
      exact ⟨_, y.length, rfl, ⟨hl, rfl⟩, k _ _ More.refl (.int _)⟩
    · cases e
  | _ => cases e
def intD : PyData → Option PyData
  | .int i => some (.int i)
  | .bool b => some (.int (if b then 1 else 0))
  | _ => none
theorem intD_ok : CaB K (fun xs H Q => (∃ i, xs = [.int i] ∧ Q (.int i) H) ∨ ∃ k, xs = [.bl k] ∧ Q (.int (if k then 1 else 0)) H) intD := by
  intro x d z H O Q l q e k
  cases d with
  | int i =>
    have q2 := q.dq fun _ z => by cases z
    cases e
    cases q2
    exact .inl ⟨i, rfl, k _ _ More.refl (.int _)⟩
  | bool b =>
    have q2 := q.dq fun _ z => by cases z
    cases e
    cases q2
    exact .inr ⟨b, rfl, k _ _ More.refl (.int _)⟩
  | _ => cases e
def absD : PyData → Option PyData
  | .int i => some (.int (if i < 0 then -i else i))
  | _ => none
theorem absD_ok : CaB K (fun xs H Q => ∃ i, xs = [.int i] ∧ Q (.int (if i < 0 then -i else i)) H) absD := by
  intro x d z H O Q l q e k
  cases d with
  | int i =>
    have q2 := q.dq fun _ z => by cases z
    cases e
    cases q2
    exact ⟨i, rfl, k _ _ More.refl (.int _)⟩
  | _ => cases e
def max2D : List PyData → Option PyData
  | [.int i, .int j] => some (.int (if j > i then j else i))
  | _ => none
def min2D : List PyData → Option PyData
  | [.int i, .int j] => some (.int (if j < i then j else i))
  | _ => none
theorem max2D_ok : CaG K (fun xs H Q => ∃ i j, xs = [.int i, .int j] ∧ Q (.int (if j > i then j else i)) H) max2D := by
  intro xs ds z H O Q l q e k
  cases q with
  | nil => cases e
  | cons q1 q =>
    cases q with
    | nil => cases q1 <;> cases e
    | cons q2 q =>
      cases q with
      | nil =>
        cases q1 <;> cases q2 <;> simp only [max2D] at e <;> first | (cases e; done) | skip
        cases e
        exact ⟨_, _, rfl, k _ _ More.refl (.int _)⟩
      | cons q3 q => cases q1 <;> cases q2 <;> cases e
theorem min2D_ok : CaG K (fun xs H Q => ∃ i j, xs = [.int i, .int j] ∧ Q (.int (if j < i then j else i)) H) min2D := by
  intro xs ds z H O Q l q e k
  cases q with
  | nil => cases e
  | cons q1 q =>
    cases q with
    | nil => cases q1 <;> cases e
    | cons q2 q =>
      cases q with
      | nil =>
        cases q1 <;> cases q2 <;> simp only [min2D] at e <;> first | (cases e; done) | skip
        cases e
        exact ⟨_, _, rfl, k _ _ More.refl (.int _)⟩
      | cons q3 q => cases q1 <;> cases q2 <;> cases e
def maxI : List Int → Int
  | [] => 0
  | [x] => x
  | x :: y :: r => max x (maxI (y :: r))
def minI : List Int → Int
  | [] => 0
  | [x] => x
  | x :: y :: r => min x (minI (y :: r))
theorem maxI_spec : ∀ {l : List Int}, l ≠ [] → maxI l ∈ l ∧ ∀ y ∈ l, y ≤ maxI l
  | [], h => absurd rfl h
  | [x], _ => by simp [maxI]
  | x :: y :: r, _ => by
    obtain ⟨a, b⟩ := maxI_spec (l := y :: r) (by simp)
    show max x (maxI (y :: r)) ∈ _ ∧ ∀ z ∈ _, z ≤ max x (maxI (y :: r))
    refine ⟨?_, fun z hz => ?_⟩
    · rcases Int.le_total x (maxI (y :: r)) with h | h
      · rw [Int.max_eq_right h]; exact List.mem_cons_of_mem _ a
      · rw [Int.max_eq_left h]; exact List.mem_cons_self
    · rcases List.mem_cons.mp hz with e | e
      · omega
      · have := b z e; omega
theorem minI_spec : ∀ {l : List Int}, l ≠ [] → minI l ∈ l ∧ ∀ y ∈ l, minI l ≤ y
  | [], h => absurd rfl h
  | [x], _ => by simp [minI]
  | x :: y :: r, _ => by
    obtain ⟨a, b⟩ := minI_spec (l := y :: r) (by simp)
    show min x (minI (y :: r)) ∈ _ ∧ ∀ z ∈ _, min x (minI (y :: r)) ≤ z
    refine ⟨?_, fun z hz => ?_⟩
    · rcases Int.le_total x (minI (y :: r)) with h | h
      · rw [Int.min_eq_left h]; exact List.mem_cons_self
      · rw [Int.min_eq_right h]; exact List.mem_cons_of_mem _ a
    · rcases List.mem_cons.mp hz with e | e
      · omega
      · have := b z e; omega
def intsLD (f : List Int → Option PyData) : PyData → Option PyData
  | .list ds => (intsD ds).bind f
  | _ => none
abbrev maxLD := intsLD fun ns => if ns ≠ [] then some (.int (maxI ns)) else none
abbrev minLD := intsLD fun ns => if ns ≠ [] then some (.int (minI ns)) else none
abbrev sumLD := intsLD fun ns => some (.int ns.sum)
theorem intsLD_ok {r : List V → Hp → VK → Prop} {f : List Int → Option PyData} (h : ∀ (a : Addr) (ns : List Int) (z : PyData) (H : Hp) (Q : VK), SqL K H a (ns.map V.int) → f ns = some z → (∀ v, (∀ O, Dq K H O v z) → Q v H) → r [.ref a] H Q) : CaB K r (intsLD f) := by
  intro x d z H O Q l q e k
  cases d with
  | list ds =>
    obtain ⟨ns, en, e2⟩ := Option.bind_eq_some_iff.mp e
    obtain rfl := intsD_some en
    obtain ⟨a, vs, rfl, r, qa⟩ := q.rd
    obtain rfl := ints_vs qa
    exact h a ns z H Q (.inl r) e2 fun v q => k _ _ More.refl (q O)
  | _ => cases e
theorem maxLD_ok : CaB K (rMax K) maxLD := intsLD_ok fun a ns z H Q s e k => by
  split at e
  · rename_i hn
    cases e
    obtain ⟨b, c⟩ := maxI_spec hn
    refine ⟨a, ns, rfl, s, List.length_pos_iff.mpr hn, fun m hm hM => ?_⟩
    have : m = maxI ns := by have := hM _ b; have := c m hm; omega
    subst this
    exact k _ fun O => .int _
  · cases e
theorem minLD_ok : CaB K (rMin K) minLD := intsLD_ok fun a ns z H Q s e k => by
  split at e
  · rename_i hn
    cases e
    obtain ⟨b, c⟩ := minI_spec hn
    refine ⟨a, ns, rfl, s, List.length_pos_iff.mpr hn, fun m hm hM => ?_⟩
    have : m = minI ns := by have := hM _ b; have := c m hm; omega
    subst this
    exact k _ fun O => .int _
  · cases e
theorem sumLD_ok : CaB K (rSum K) sumLD := intsLD_ok fun a ns z H Q s e k => by
  cases e
  exact ⟨a, ns, rfl, s, k _ fun O => .int _⟩
def boolsD : List PyData → Option (List Bool)
  | [] => some []
  | .bool i :: r => (boolsD r).map (i :: ·)
  | _ :: _ => none
theorem boolsD_some : ∀ {ds : List PyData} {ns : List Bool}, boolsD ds = some ns → ds = ns.map PyData.bool
  | [], _, h => by cases h; rfl
  | .bool i :: r, ns, h => by
    simp only [boolsD] at h
    obtain ⟨m, e, rfl⟩ := Option.map_eq_some_iff.mp h
    rw [boolsD_some e]; rfl
  | .none :: _, _, h => by cases h
  | .int _ :: _, _, h => by cases h
  | .str _ :: _, _, h => by cases h
  | .list _ :: _, _, h => by cases h
  | .tuple _ :: _, _, h => by cases h
  | .dict _ :: _, _, h => by cases h
theorem boolsD_map : ∀ ns : List Bool, boolsD (ns.map PyData.bool) = some ns
  | [] => rfl
  | n :: ns => by show (boolsD (ns.map PyData.bool)).map (n :: ·) = _; rw [boolsD_map ns]; rfl
theorem bools_vs {H : Hp} {O : Addr → Prop} : ∀ {ns : List Bool} {vs : List V}, DqAll K H O vs (ns.map PyData.bool) → vs = ns.map V.bl
  | [], _, .nil => rfl
  | n :: ns, _, .cons q qs => by
    cases q
    rw [bools_vs qs]; rfl
def boolsLD (f : List Bool → Bool) : PyData → Option PyData
  | .list ds => (boolsD ds).map fun bs => .bool (f bs)
  | _ => none
abbrev allD := boolsLD fun bs => bs.all id
abbrev anyD := boolsLD fun bs => bs.any id
theorem allD_ok : CaB K (rAll K) allD := by
  intro x d z H O Q l q e k
  cases d with
  | list ds =>
    obtain ⟨ns, en, rfl⟩ := Option.map_eq_some_iff.mp e
    obtain rfl := boolsD_some en
    obtain ⟨a, vs, rfl, r, qa⟩ := q.rd
    obtain rfl := bools_vs qa
    exact ⟨a, ns, rfl, .inl r, k _ _ More.refl (.bl _)⟩
  | _ => cases e
theorem anyD_ok : CaB K (rAny K) anyD := by
  intro x d z H O Q l q e k
  cases d with
  | list ds =>
    obtain ⟨ns, en, rfl⟩ := Option.map_eq_some_iff.mp e
    obtain rfl := boolsD_some en
    obtain ⟨a, vs, rfl, r, qa⟩ := q.rd
    obtain rfl := bools_vs qa
    exact ⟨a, ns, rfl, .inl r, k _ _ More.refl (.bl _)⟩
  | _ => cases e
def tupD : PyData → Option PyData
  | .list ds => some (.tuple ds)
  | .tuple ds => some (.tuple ds)
  | _ => none
theorem tupD_ok : CaB K (fun xs H Q => ∃ p ys, xs = [.ref p] ∧ ((SqL K H p ys ∧ ∀ l, H l = none → Q (.ref l) (upd H l (.tup ys))) ∨ (SqT K H p ys ∧ Q (.ref p) H))) tupD := by
  intro x d z H O Q l q e k
  cases d with
  | list ds =>
    obtain ⟨a, vs, rfl, r, qa⟩ := q.rd
    cases e
    exact ⟨a, vs, rfl, .inl ⟨.inl r, fun p hp => k _ _ (More.upd hp) (.tup (.inl (.inl upd_same)) (qa.more l (More.upd hp)))⟩⟩
  | tuple ds =>
    have q2 := q.dq fun _ z => by cases z
    cases e
    cases q2 with
    | @tup a vs _ r qa => exact ⟨a, vs, rfl, .inr ⟨r, k _ _ More.refl (.tup r qa)⟩⟩
  | _ => cases e
def lstD : PyData → Option (List PyData)
  | .list ds => some ds
  | .tuple ds => some ds
  | _ => none
theorem lstD_ok : CaBL K (fun xs H Q => ∃ p ys, xs = [.ref p] ∧ (SqL K H p ys ∨ SqT K H p ys) ∧ ∀ l, H l = none → Q (.ref l) (upd H l (.lst ys))) lstD := by
  intro x d z H O Q l q e k
  cases d with
  | list ds =>
    obtain ⟨a, vs, rfl, r, qa⟩ := q.rd
    cases e
    exact ⟨a, vs, rfl, .inl (.inl r), fun p hp => k _ _ hp qa⟩
  | tuple ds =>
    have q2 := q.dq fun _ z => by cases z
    cases e
    cases q2 with
    | @tup a vs _ r qa => exact ⟨a, vs, rfl, .inr r, fun p hp => k _ _ hp qa⟩
  | _ => cases e
/-- sorted(xs), ints -/
def sortI (ns : List Int) : List Int := ns.mergeSort fun a b => decide (a ≤ b)
theorem sortI_perm (ns : List Int) : (sortI ns).Perm ns := List.mergeSort_perm ns _
theorem sortI_le (ns : List Int) : (sortI ns).Pairwise (· ≤ ·) := by
  have h := List.pairwise_mergeSort (le := fun a b : Int => decide (a ≤ b)) (fun a b c h1 h2 => by simp only [decide_eq_true_eq] at *; omega) (fun a b => by simp only [Bool.or_eq_true, decide_eq_true_eq]; omega) ns
  exact h.imp fun h => by simpa using h
theorem sortI_eq {ns ms : List Int} (h : ms.Perm ns) (h2 : ms.Pairwise (· ≤ ·)) : ms = sortI ns :=
  List.Perm.eq_of_pairwise (le := (· ≤ ·)) (fun a b _ _ h1 h2 => by omega) h2 (sortI_le ns) (h.trans (sortI_perm ns).symm)
def sortedD : PyData → Option (List PyData)
  | .list ds => (intsD ds).map fun ns => (sortI ns).map .int
  | .tuple ds => (intsD ds).map fun ns => (sortI ns).map .int
  | _ => none
def rSortedA (K : Fg) : List V → Hp → VK → Prop := fun vs H Q => ∃ (a : Addr) (ns : List Int), vs = [V.ref a] ∧ (SqL K H a (ns.map V.int) ∨ SqT K H a (ns.map V.int)) ∧
  ∀ (ns' : List Int) (p : Addr), ns'.Perm ns → ns'.Pairwise (· ≤ ·) → H p = none → Q (.ref p) (upd H p (.lst (ns'.map V.int)))
theorem cr_sortedA {X : Cx} : CallR X (.builtin "sorted") (rSortedA X.K) := by
  intro pins s σ H vs us Q I r h
  obtain ⟨a, ns, rfl, hs, q⟩ := h
  rcases hs with hs | hs
  · exact cr_sortedI pins s σ H [.ref a] us Q I r ⟨a, ns, rfl, hs, q⟩
  · obtain ⟨its, rv, hl, hz⟩ := I.tuple hs
    rw [Vals.ref1 r]
    have hi := rv.ints
    refine SrtO.sorted_ordT SrtO.swo_int hl (by rw [← rv.length]; exact hz) (fun h2 h₁ a' _ _ => SrtO.ints_sortable hi h2) fun out h1 h2 => ?_
    obtain ⟨k1, k2, k3⟩ := SrtO.ints_out hi h1 h2
    obtain ⟨ep, he'⟩ := PyProof.Rows.sortedAll_at s.heap its out.toArray
    have hlen : ((out.map SrtO.iv).map V.int).length ≤ sizeLine := by
      rw [List.length_map, k2.length_eq]
      rw [List.length_map] at hz
      exact hz
    exact ⟨.ref _, upd H (s.heap.objs.size + 1) (.lst ((out.map SrtO.iv).map V.int)), I.laid (t' := s.toks) (fun _ _ => PyProof.Rows.sortedAll_old) (Nat.le_succ _) ⟨hlen, out, ep, vals_of_ints k1, he'⟩, rfl, q _ _ k2 k3 (I.hok.fresh (Nat.le_succ _))⟩
theorem sortedD_ok : CaBL K (rSortedA K) sortedD := by
  intro x d z H O Q l q e k
  cases d with
  | list ds =>
    obtain ⟨ns, en, rfl⟩ := Option.map_eq_some_iff.mp e
    obtain rfl := intsD_some en
    obtain ⟨a, vs, rfl, r, qa⟩ := q.rd
    obtain rfl := ints_vs qa
    refine ⟨a, ns, rfl, .inl (.inl r), fun ns' p h1 h2 hp => ?_⟩
    obtain rfl := sortI_eq h1 h2
    exact k p _ hp (ints_dq _)
  | tuple ds =>
    obtain ⟨ns, en, rfl⟩ := Option.map_eq_some_iff.mp e
    obtain rfl := intsD_some en
    have q2 := q.dq fun _ z => by cases z
    cases q2 with
    | @tup a vs _ r qa =>
      obtain rfl := ints_vs qa
      refine ⟨a, ns, rfl, .inr r, fun ns' p h1 h2 hp => ?_⟩
      obtain rfl := sortI_eq h1 h2
      exact k p _ hp (ints_dq _)
  | _ => cases e
end

/-! ### isinstance of a built-in type -/
def tyN : PyData → String
  | .none => "NoneType"
  | .bool _ => "bool"
  | .int _ => "int"
  | .str _ => "str"
  | .list _ => "list"
  | .tuple _ => "tuple"
  | .dict _ => "dict"
/-- of a type among int, bool, str, list, tuple, dict -/
def isiB (T : String) (d : PyData) : Bool := tyN d == T || (T == "int" && tyN d == "bool")
theorem kitB_all : ∀ T ∈ ["int", "bool", "str", "list", "tuple", "dict"], ∀ t ∈ ["NoneType", "bool", "int", "str", "list", "tuple"], kitB t T = some (t == T || (T == "int" && t == "bool")) := by decide +kernel
section
variable {X : Cx} {W : WX} {a b : Expr} {ma mb : MX PyData} {pos p p2 : Pos} {x : Str} {T : String}
def isiD (T : String) (d : PyData) : Option PyData := match d with
  | .dict _ => none
  | _ => some (.bool (isiB T d))
theorem tyX_of {K : Fg} {H : Hp} {O : Addr → Prop} {v : V} {d : PyData} (q : Bq K H O v d) (nd : ∀ kvs, d ≠ .dict kvs) : TyX K H v (.type (tyN d)) := by
  cases d with
  | none => have q2 := q.dq (fun _ z => by cases z); cases q2; exact .base .non
  | bool b => have q2 := q.dq (fun _ z => by cases z); cases q2; exact .base (.bl _)
  | int b => have q2 := q.dq (fun _ z => by cases z); cases q2; exact .base (.int _)
  | str b => have q2 := q.dq (fun _ z => by cases z); cases q2; exact .base (.str _)
  | list ds =>
    obtain ⟨a, vs, rfl, r, qa⟩ := q.rd
    rcases r with r | ⟨o, r⟩
    · exact .base (.lst r)
    · exact .base (.frz r)
  | tuple ds =>
    have q2 := q.dq (fun _ z => by cases z)
    cases q2 with
    | @tup a vs _ r qa =>
      rcases r with (r | ⟨o, r⟩) | r
      · exact .base (.tup r)
      · exact .fTuple r
      · obtain ⟨o, _, _, e, c, _⟩ := r
        exact .kTuple e c
  | dict kvs => exact absurd rfl (nd kvs)
end
end L2.DL
end
section
set_option Elab.async false
set_option linter.all false
set_option maxRecDepth 100000
namespace L2.DL
open PySem PySem.Spec PyProof.Rows
set_option autoImplicit false

theorem tyN_mem {d : PyData} (nd : ∀ kvs, d ≠ .dict kvs) : tyN d ∈ ["NoneType", "bool", "int", "str", "list", "tuple"] := by
  cases d with
  | dict k => exact absurd rfl (nd k)
  | _ => simp [tyN]
section
variable {X : Cx} {W : WX} {a b e : Expr} {ma mb me mi : MX PyData} {ml : MX (List PyData)} {pos p p2 : Pos} {x : Str} {T id : String} {es : List Expr} {i : Nat}
/-- isinstance(a, T) -/
theorem de_isi (hm : X.mg "isinstance" = none) (hm2 : X.mg x = none) (hv2 : bootBuiltins x = some (.type T)) (hT : T ∈ ["int", "bool", "str", "list", "tuple", "dict"]) (ha : DB X W a ma) (gl : Gl X "isinstance" := by rfl) (gl2 : Gl X x := by rfl) (hn2 : x ≠ "__name__" := by decide) (hd2 : (x == ("__debug__" : Str)) = false := by decide)
    (hv : bootBuiltins "isinstance" = some (.builtin "isinstance") := by rfl) (hs2 : starEach [.Name x p2] X.env = (false, eval (.Name x p2) X.env) :: starEach [] X.env := by rfl)
    (hs : starEach [a, .Name x p2] X.env = (false, eval a X.env) :: starEach [.Name x p2] X.env := by rfl) (hpl : (backTo pos (starEach [.Name x p2] X.env)).any (·.1) = false := by rfl) : DE X W (.Call (.Name "isinstance" p) [a, .Name x p2] [] pos) (mUn (isiD T) ma) := by
  have hx : PE X (.Name x p2) (tC (.ty T)) := pe_bltn gl2 hm2 hv2 rfl hn2 hd2
  refine PE.imp (pe_callB call_isi gl hm hv (pa_cons ha (pa_cons hx pa_nil hs2) hs) (by decide) (by decide) hs hpl) fun σ H Q ⟨η, T', r0, n0⟩ => ⟨η, T', r0, n0.bind fun x η1 e1 n1 v H1 s1 r1 q1 => ?_⟩
  obtain ⟨z, ez, pz⟩ := n1.lift
  have nd : ∀ kvs, x ≠ .dict kvs := fun kvs z => by rw [z] at ez; cases ez
  have hz : z = .bool (isiB T x) := by
    cases x <;> first | (cases ez; done) | (cases ez; rfl)
  subst hz
  have hk : kitB (tyN x) T = some (isiB T x) := kitB_all T hT (tyN x) (tyN_mem nd)
  exact ⟨v, .ty T, .type (tyN x), .type T, isiB T x, rfl, .ty T, tyX_of q1 nd, kit_ty hk, pz.meet s1 r1 _ _ More.refl (.bl _)⟩

/-! ### methods of own lists -/
def MeG (K : Fg) (r : V → List V → Hp → VK → Prop) (f : List PyData → List PyData → Option (PyData × List PyData)) : Prop :=
  ∀ (a : Addr) (vs us : List V) (xs ds : List PyData) (z : PyData) (ys : List PyData) (H : Hp) (O : Addr → Prop) (Q : VK), H a = some (.lst vs) → DqAll K H O vs xs → DqAll K H O us ds → f xs ds = some (z, ys) →
    (∀ v ws, DqAll K H O ws ys → Dq K H O v z → Q v (upd H a (.lst ws))) → r (.ref a) us H Q
def mMeth (f : List PyData → List PyData → Option (PyData × List PyData)) (i : Nat) (ml : MX (List PyData)) : MX PyData := fun η => match η[i]? with
  | some (some (.own _ _)) => mBind ml (fun ds η1 => match η1[i]? with
    | some (some (.own b xs)) => match f xs ds with
      | some (z, ys) => some (.ok z, η1.set i (some (.own b ys)))
      | none => none
    | _ => none) η
  | _ => none
/-- an own list's items are changed -/
theorem Rp.change {K : Fg} {mg : Str → Option Value} {σ : St} {H : Hp} {η : EnvD} {T : Addr → Prop} {b : Bool} {xs ys : List PyData} {a : Addr} {ws : List V} (r : Rp K mg σ H η T) (h : η[i]? = some (some (.own b xs))) (ha : σ[i]? = some (some (.ref a))) (q : DqAll K H (Avd σ η T) ws ys) :
    Rp K mg σ (upd H a (.lst ws)) (η.set i (some (.own b ys))) T ∧ StepS σ H η σ (upd H a (.lst ws)) (η.set i (some (.own b ys))) ∧ ∀ v d, Dq K H (Avd σ η T) v d → Dq K (upd H a (.lst ws)) (Avd σ (η.set i (some (.own b ys))) T) v d := by
  have oa : Avd σ η T a := .inr ⟨i, b, xs, h, ha⟩
  have kp : Kp (Avd σ η T) (Avd σ η T) H (upd H a (.lst ws)) := ⟨fun q o h n => by rw [upd_ne (fun z => n (by rw [z]; exact oa))]; exact h, r.avd, fun q z => .inl z⟩
  obtain ⟨A, B⟩ := r.turn h ha (H' := upd H a (.lst ws)) (fun q e => by
    by_cases z : q = a
    · subst z; rw [upd_same] at e; cases e
    · rw [upd_ne z] at e; exact e) (fun q o e z => by rw [upd_ne z]; exact e) upd_same (DqAll.keep kp ys ws q)
  exact ⟨A, B, fun v d qd => Dq.less (fun z w => w.imp id (own_same h).mp) d v (Dq.keep kp d v qd)⟩
theorem meth_gen {r : V → List V → Hp → VK → Prop} {f : List PyData → List PyData → Option (PyData × List PyData)} (hf : MeG X.K r f) (h : PE X e (fun σ H Q => ∃ v, σ[i]? = some (some v) ∧ tyV X.K "list" v H ∧ tAr X.K X.mg W ml σ H fun us H2 => r v us H2 Q)) : DE X W e (mMeth f i ml) := by
  refine PE.imp h fun σ H Q ⟨η, T, r0, n0⟩ => ?_
  unfold mMeth at n0
  split at n0
  · rename_i b0 x0 h0
    obtain ⟨a, w0, ea, el, _⟩ := r0.own i b0 x0 h0
    refine ⟨.ref a, ea, .inl ⟨rfl, _, .inl (.inl el)⟩, η, T, r0, n0.bind fun ds η1 e1 n1 us H1 s1 r1 q1 => ?_⟩
    obtain ⟨o, η', eo, pz⟩ := n1
    split at eo
    · rename_i b xs hx
      obtain ⟨a', ws, ea', e2, q2, na⟩ := r1.own i b xs hx
      rw [ea] at ea'; cases ea'
      split at eo
      · rename_i z ys hz
        cases eo
        refine hf a ws us xs ds z ys H1 (Avd σ η1 T) Q e2 q2 q1 hz fun v ws' qw qv => ?_
        obtain ⟨A, B, C⟩ := r1.change hx ea qw
        exact pz v _ (s1.trans B) A (C v z qv)
      · cases eo
    · cases eo
  · obtain ⟨_, _, z, _⟩ := n0; cases z
variable {name y : Str} {apos cpos py : Pos} {r : V → List V → Hp → VK → Prop} {f : List PyData → List PyData → Option (PyData × List PyData)}
/-- x.name(e, ..) -/
theorem de_meth (slot : PySem.Slot "list" name id) (hty : typeOf (.builtin id) = pure (.type "method_descriptor")) (hm : MtR X id r) (hf : MeG X.K r f) (hv : PE X (.Name y py) (tVar i)) (ha : DA X W (a :: es) ml)
    (hbase : attributeBase (.Name y py) name X.env (eval (.Name y py) X.env) = eval (.Name y py) X.env := by rfl)
    (hfew : ((backTo cpos (starEach (a :: es) X.env)).all (fun x => !x.1) && (backToKw cpos (keywordEach [] X.env)).all (fun x => x.1.isSome)
      && decide ((a :: es).length + ([] : List Keyword).length + (if ([] : List Keyword).isEmpty then 0 else 1) < 30)) = true := by rfl)
    (hline : (apos.endLine == cpos.line) = true := by rfl) (hs : starEach (a :: es) X.env = (false, eval a X.env) :: starEach es X.env := by rfl) (hplain : (backTo cpos (starEach es X.env)).any (·.1) = false := by rfl) :
    DE X W (.Call (.Attribute (.Name y py) name apos) (a :: es) [] cpos) (mMeth f i ml) :=
  meth_gen hf (pe_bm PySem.F.plainAttrs_list slot hty hm hv ha hbase hfew hline hs hplain)
theorem de_meth0 (slot : PySem.Slot "list" name id) (hty : typeOf (.builtin id) = pure (.type "method_descriptor")) (hm : MtR X id r) (hf : MeG X.K r f) (hv : PE X (.Name y py) (tVar i))
    (hbase : attributeBase (.Name y py) name X.env (eval (.Name y py) X.env) = eval (.Name y py) X.env := by rfl) (hline : (apos.endLine == cpos.line) = true := by rfl) :
    DE X W (.Call (.Attribute (.Name y py) name apos) [] [] cpos) (mMeth f i mNil) := by
  refine meth_gen hf (PE.imp (pe_bm0 PySem.F.plainAttrs_list slot hty hm hv hbase hline) fun σ H Q ⟨v, e1, t1, η, T, r0, n0⟩ => ⟨v, e1, t1, ?_⟩)
  obtain ⟨o, η', eo, pz⟩ := n0
  unfold mNil mPure at eo
  cases eo
  exact pz [] H StepS.refl r0 .nil
end
def appendD : List PyData → List PyData → Option (PyData × List PyData) := fun xs ds => match ds with
  | [d] => if xs.length < sizeLine then some (.none, xs ++ [d]) else none
  | _ => none
theorem appendD_ok {K : Fg} : MeG K rAppend appendD := by
  intro a vs us xs ds z ys H O Q ea qa qu e k
  cases qu with
  | nil => cases e
  | cons q1 q =>
    cases q with
    | nil =>
      simp only [appendD] at e
      split at e
      · rename_i hl
        cases e
        exact ⟨a, vs, _, rfl, rfl, ea, by rw [qa.length]; exact hl, k _ _ (qa.append (.cons q1 .nil)) .non⟩
      · cases e
    | cons q2 q => cases e
def popD : List PyData → List PyData → Option (PyData × List PyData) := fun xs ds => match ds with
  | [] => (xs[xs.length - 1]?).map fun z => (z, xs.dropLast)
  | [.int i] => if -(2 ^ 63) ≤ i ∧ i < 2 ^ 63 then (seqIndex? i xs.length).bind fun k => (xs[k]?).map fun z => (z, xs.eraseIdx k) else none
  | _ => none
theorem DqAll.dropLast {K : Fg} {H : Hp} {O : Addr → Prop} : ∀ {ds : List PyData} {vs : List V}, DqAll K H O vs ds → DqAll K H O vs.dropLast ds.dropLast
  | [], _, .nil => .nil
  | [d], _, .cons q .nil => .nil
  | d :: e :: r, _, .cons q (.cons q2 qs) => .cons q (DqAll.dropLast (.cons q2 qs))
theorem DqAll.eraseIdx {K : Fg} {H : Hp} {O : Addr → Prop} : ∀ {ds : List PyData} {vs : List V} (i : Nat), DqAll K H O vs ds → DqAll K H O (vs.eraseIdx i) (ds.eraseIdx i)
  | [], _, _, .nil => .nil
  | d :: r, _, 0, .cons q qs => qs
  | d :: r, _, i + 1, .cons q qs => .cons q (DqAll.eraseIdx i qs)
theorem popD_ok0 {K : Fg} : MeG K rPop (fun xs ds => match ds with | [] => (xs[xs.length - 1]?).map fun z => (z, xs.dropLast) | _ => none) := by
  intro a vs us xs ds z ys H O Q ea qa qu e k
  cases qu with
  | nil =>
    obtain ⟨w, ew, e2⟩ := Option.map_eq_some_iff.mp e
    cases e2
    obtain ⟨v, ev, qv⟩ := qa.get ew
    exact ⟨a, vs, v, rfl, rfl, ea, by rw [qa.length]; exact ev, k _ _ qa.dropLast qv⟩
  | cons q1 q => cases e
theorem popD_ok1 {K : Fg} : MeG K rPopAt (fun xs ds => match ds with
  | [.int i] => if -(2 ^ 63) ≤ i ∧ i < 2 ^ 63 then (seqIndex? i xs.length).bind fun k => (xs[k]?).map fun z => (z, xs.eraseIdx k) else none
  | _ => none) := by
  intro a vs us xs ds z ys H O Q ea qa qu e k
  cases qu with
  | nil => cases e
  | cons q1 q =>
    cases q with
    | nil =>
      cases q1 with
      | int i =>
        simp only at e
        split at e
        · rename_i hi
          obtain ⟨j, ej, e2⟩ := Option.bind_eq_some_iff.mp e
          obtain ⟨w, ew, e3⟩ := Option.map_eq_some_iff.mp e2
          cases e3
          obtain ⟨v, ev, qv⟩ := qa.get ew
          exact ⟨a, vs, i, j, v, rfl, rfl, ea, hi.1, hi.2, by rw [qa.length]; exact ej, ev, k _ _ (qa.eraseIdx j) qv⟩
        · cases e
      | _ => cases e
    | cons q2 q => cases q1 <;> cases e
/-! ### xs[i] = e -/
def mSetIx (i : Nat) (me mi : MX PyData) : MX Fl := mBind me fun d => fun η => match η[i]? with
  | some (some (.own _ _)) => mBind mi (fun j η1 => match η1[i]?, j with
    | some (some (.own b xs)), .int k => match ixN xs.length k with
      | some n => some (.ok .nx, η1.set i (some (.own b (xs.set n d))))
      | none => none
    | _, _ => none) η
  | _ => none
section
variable {X : Cx} {W : WX} {e ei : Expr} {me mi : MX PyData} {i : Nat} {y : Str} {py tpos pos : Pos}
theorem ds_setIx (hv : PE X (.Name y py) (tVar i)) (hi : DE X W ei mi) (he : DE X W e me) (hs : swapsWithSole [.Subscript (.Name y py) ei tpos] e pos.line X.env = pure false := by rfl) (hw : swappedStores [.Subscript (.Name y py) ei tpos] e X.env = pure none := by rfl)
    (h1 : (assignEach [.Subscript (.Name y py) ei tpos] X.env).map (·.2) = [assign (.Subscript (.Name y py) ei tpos) X.env] := by rfl)
    (ha : ∀ v, assign (.Subscript (.Name y py) ei tpos) X.env v = (do
      let ov ← holding [v] (eval (.Name y py) X.env)
      let iv ← holding [v, ov] (eval ei X.env)
      standAt tpos
      holding [v, ov, iv] (setItem ov iv v)
      release [v, ov, iv] []) := by intro _; rfl) : DS X W (.Assign [.Subscript (.Name y py) ei tpos] e pos) (mSetIx i me mi) := by
  refine PS.imp (ps_asg he (pg_sub hv hi set_list ha) hs hw h1) fun D σ H ⟨η, T, r0, n0⟩ => ⟨η, T, r0, n0.bind fun d η1 e1 n1 v H1 s1 r1 q1 => ?_⟩
  cases h0 : η1[i]? with
  | none => rw [h0] at n1; obtain ⟨_, _, z, _⟩ := n1; cases z
  | some s0 =>
    rw [h0] at n1
    cases s0 with
    | none => obtain ⟨_, _, z, _⟩ := n1; cases z
    | some s0 =>
      cases s0 with
      | own b0 x0 =>
        obtain ⟨a, w0, ea, el, _⟩ := r1.own i b0 x0 h0
        refine ⟨.ref a, ea, η1, T, r1, (Nx.laterS s1 n1).bind fun j η2 e2 n2 w H2 s2 r2 q2 => ?_⟩
        obtain ⟨o, η', eo, pz⟩ := n2
        split at eo
        · rename_i b xs k hx
          split at eo
          · rename_i n hn
            cases eo
            cases q2
            obtain ⟨a', ws, ea', e3, q3, na⟩ := r2.own i b xs hx
            rw [ea] at ea'; cases ea'
            refine ⟨a, ws, k, n, rfl, rfl, e3, by rw [q3.length]; exact hn, ?_⟩
            obtain ⟨A, B, C⟩ := r2.change hx ea (q3.set n (r1.old s2 q1))
            exact pz σ _ (s2.trans B) A
          · cases eo
        · cases eo
      | val _ => obtain ⟨_, _, z, _⟩ := n1; cases z
      | exc _ _ => obtain ⟨_, _, z, _⟩ := n1; cases z
/-! ### x += e, ints -/
def mAug (f : Int → Int → Int) (i : Nat) (me : MX PyData) : MX Fl := fun η => match η[i]? with
  | some (some (.val (.int x))) => mBind me (fun d η1 => match d with
    | .int y => match stO i (.val (.int (f x y))) η1 with
      | some η2 => some (.ok .nx, η2)
      | none => none
    | _ => none) η
  | _ => none
theorem ds_aug {f : Int → Int → Int} {op : Operator} {pos' : Pos} (hN : X.N.Nodup) (hi : X.N[i]? = some y) (hx : Loc X.env.scope y) (he : DE X W e me) (ho : PIp X op (ipI f)) (hf : X.fn y = true ∨ X.env.scope.names.lookup y = some .local := by first | exact .inl rfl | exact .inr rfl | assumption) :
    DS X W (.AugAssign (.Name y pos') op e pos) (mAug f i me) := by
  refine PS.imp (ps_aug hN hi hx he ho hf) fun D σ H ⟨η, T, r0, n0⟩ => ?_
  unfold mAug at n0
  split at n0
  · rename_i x hx
    obtain ⟨v, ev, qv⟩ := r0.val i _ hx
    cases qv
    refine ⟨.int x, ev, η, T, r0, n0.bind fun d η1 e1 n1 w H1 s1 r1 q1 => ?_⟩
    obtain ⟨o, η', eo, pz⟩ := n1
    split at eo
    · rename_i yy
      cases q1
      split at eo
      · rename_i η2 hη
        cases eo
        obtain ⟨rfl, ni⟩ := stO_some hη
        obtain ⟨r2, s2⟩ := r1.store (i := i) (v := V.int (f x yy)) (d := .int (f x yy)) (.int _)
        exact ⟨x, yy, rfl, rfl, pz _ H1 (s1.trans (s2 ni)) r2⟩
      · cases eo
    · cases eo
  · obtain ⟨_, _, z, _⟩ := n0; cases z
end
/-! ### a, b = x, y -/
def mPar (i j : Nat) (ml : MX (List PyData)) : MX Fl := mBind ml fun ds => fun η => match ds with
  | [d, e] => match (stO i (.val d) η).bind (stO j (.val e)) with
    | some η' => some (.ok .nx, η')
    | none => none
  | _ => none
section
variable {X : Cx} {W : WX} {a b : Expr} {ml : MX (List PyData)} {i j : Nat} {x y : Str} {px py pt pos pt2 : Pos} {kt k2 : Nat}
theorem ds_par (hc : X.calm = true) (hN : X.N.Nodup) (hi : X.N[i]? = some x) (hj : X.N[j]? = some y) (hij : i ≠ j)
    (hx : X.env.scope.names.lookup x = some .local) (hy : X.env.scope.names.lookup y = some .local) (ha : DA X W [a, b] ml)
    (hw : swappedStores [.Tuple [.Name x px, .Name y py] kt pt] (.Tuple [a, b] k2 pt2) X.env = pure (some [x, y]))
    (hs : swapsWithSole [.Tuple [.Name x px, .Name y py] kt pt] (.Tuple [a, b] k2 pt2) pos.line X.env = pure false := by rfl) :
    DS X W (.Assign [.Tuple [.Name x px, .Name y py] kt pt] (.Tuple [a, b] k2 pt2) pos) (mPar i j ml) := by
  refine PS.imp (ps_par hc hN hi hj hij hx hy ha hw hs) fun D σ H ⟨η, T, r0, n0⟩ => ⟨η, T, r0, n0.bind fun ds η1 e1 n1 vs H1 s1 r1 q1 => ?_⟩
  obtain ⟨o, η', eo, pz⟩ := n1
  cases q1 with
  | nil => cases eo
  | cons q1 q =>
    cases q with
    | nil => cases eo
    | cons q2 q =>
      cases q with
      | nil =>
        simp only at eo
        split at eo
        · rename_i η2 hη
          cases eo
          obtain ⟨η3, e3, e4⟩ := Option.bind_eq_some_iff.mp hη
          obtain ⟨rfl, ni⟩ := stO_some e3
          obtain ⟨rfl, nj⟩ := stO_some e4
          obtain ⟨r2, s2⟩ := r1.store (i := i) q1
          obtain ⟨r3, s3⟩ := r2.store (i := j) (r1.old (s2 ni) q2)
          exact ⟨_, _, rfl, pz _ H1 ((s1.trans (s2 ni)).trans (s3 nj)) r3⟩
        · cases eo
      | cons _ _ => cases eo
end
/-! ### while -/
def whileN (mc : MX Bool) (mb : MX Fl) (fg : List Nat) : Nat → MX Fl
  | 0 => fun _ => none
  | n + 1 => fun η => match mc η with
    | some (.ok true, η1) => match mb η1 with
      | some (.ok .nx, η2) => whileN mc mb fg n (forget fg η2)
      | some (.ok .ct, η2) => whileN mc mb fg n (forget fg η2)
      | some (.ok .bk, η2) => some (.ok .nx, η2)
      | some (.ok (.rt r), η2) => some (.ok (.rt r), η2)
      | some (.exc nm d, η2) => some (.exc nm d, η2)
      | none => none
    | some (.ok false, η1) => some (.ok .nx, η1)
    | some (.exc nm d, η1) => some (.exc nm d, η1)
    | none => none
theorem whileN_up {mc : MX Bool} {mb : MX Fl} {fg : List Nat} : ∀ {n : Nat} {η : EnvD} {o : R Fl × EnvD}, whileN mc mb fg n η = some o → ∀ m, n ≤ m → whileN mc mb fg m η = some o
  | 0, _, _, h, _, _ => by cases h
  | n + 1, η, o, h, m, hm => by
    obtain ⟨m, rfl⟩ : ∃ k, m = k + 1 := ⟨m - 1, by omega⟩
    unfold whileN at h ⊢
    split at h
    · rename_i η1 e1
      split at h
      · exact whileN_up h m (by omega)
      · exact whileN_up h m (by omega)
      · exact h
      · exact h
      · exact h
      · cases h
    · exact h
    · exact h
    · cases h
open Classical in
noncomputable def mWhile (mc : MX Bool) (mb : MX Fl) (fg : List Nat) : MX Fl := fun η => if h : ∃ n o, whileN mc mb fg n η = some o then some (Classical.choose (Classical.choose_spec h)) else none
theorem mWhile_eq {mc : MX Bool} {mb : MX Fl} {fg : List Nat} {n : Nat} {η : EnvD} {o : R Fl × EnvD} (h : whileN mc mb fg n η = some o) : mWhile mc mb fg η = some o := by
  have hx : ∃ n o, whileN mc mb fg n η = some o := ⟨n, o, h⟩
  unfold mWhile
  rw [dif_pos hx]
  have h2 := Classical.choose_spec (Classical.choose_spec hx)
  have a := whileN_up h2 (max n (Classical.choose hx)) (Nat.le_max_right _ _)
  have b := whileN_up h (max n (Classical.choose hx)) (Nat.le_max_left _ _)
  rw [a] at b
  exact b
section
variable {X : Cx} {W : WX} {c : Expr} {mc : MX Bool} {mb : MX Fl} {body : List Stmt} {pos : Pos}
theorem ds_while (fg : List Nat) (hp : PassesOwn (model X.prog X.w) X.A X.env X.xe) (hc : DT X W c mc) (hb : DSs X W body mb) : DS X W (.While c body [] pos) (mWhile mc mb fg) := by
  refine PS.imp (ps_while hp hc hb) fun D σ H ⟨η, T, r0, o, η', eo, p⟩ => ?_
  unfold mWhile at eo
  split at eo
  · rename_i hx
    obtain ⟨o2, e2⟩ := Classical.choose_spec hx
    have eo' := Option.some.inj eo
    have h2 := Classical.choose_spec (Classical.choose_spec hx)
    rw [eo'] at h2
    refine ⟨fun m σ2 H2 => ∃ η2, StepS σ H η σ2 H2 η2 ∧ Rp X.K X.mg σ2 H2 η2 T ∧ whileN mc mb fg m η2 = some (o, η'), ⟨_, η, StepS.refl, r0, h2⟩, ?_⟩
    rintro m σ2 H2 ⟨η2, s2, r2, w⟩
    cases m with
    | zero => cases w
    | succ n =>
      unfold whileN at w
      split at w
      · rename_i η3 e3
        refine ⟨η2, T, r2, .ok true, η3, e3, fun H3 s3 r3 => ?_⟩
        refine iteT ?_
        have s4 := s2.trans s3
        refine ⟨fun σ' H' => ∃ η5, StepS σ H η σ' H' η5 ∧ Rp X.K X.mg σ' H' η5 T ∧ whileN mc mb fg n η5 = some (o, η'), fun σ' H' h => ⟨n, Nat.lt_succ_self n, h⟩, ?_⟩
        have again : ∀ {η4 : EnvD} {σ5 : St} {H5 : Hp}, whileN mc mb fg n (forget fg η4) = some (o, η') → StepS σ2 H3 η3 σ5 H5 η4 → Rp X.K X.mg σ5 H5 η4 T → ∃ η5, StepS σ H η σ5 H5 η5 ∧ Rp X.K X.mg σ5 H5 η5 T ∧ whileN mc mb fg n η5 = some (o, η') := fun {η4 σ5 H5} e s r => by
          obtain ⟨r6, s6⟩ := Rp.forget fg r
          exact ⟨_, (s4.trans s).trans s6, r6, e⟩
        split at w
        · rename_i η4 e4
          exact ⟨η3, T, r3, .ok .nx, η4, e4, fun σ' H' s r => again w s r⟩
        · rename_i η4 e4
          exact ⟨η3, T, r3, .ok .ct, η4, e4, fun σ' H' s r => again w s r⟩
        · rename_i η4 e4
          cases w
          exact ⟨η3, T, r3, .ok .bk, η', e4, fun σ' H' s r => p σ' H' (s4.trans s) r⟩
        · rename_i rv η4 e4
          cases w
          refine ⟨η3, T, r3, .ok (.rt rv), η', e4, ?_⟩
          cases rv with
          | d y => exact fun v σ' H' s r q => p v σ' H' (s4.trans s) r q
          | l ys => exact fun a ws σ' H' s f => p a ws σ' H' (s4.trans s) (f.elim (s4.leF a) fun z => .inr (s4.tr a z))
        · rename_i nm d η4 e4
          cases w
          exact ⟨η3, T, r3, .exc nm d, η', e4, fun cls dd σ' H' s r q => p cls dd σ' H' (s4.trans s) r q⟩
        · cases w
      · rename_i η3 e3
        cases w
        refine ⟨η2, T, r2, .ok false, η', e3, fun H3 s3 r3 => ?_⟩
        exact iteF (p σ2 H3 (s2.trans s3) r3)
      · rename_i nm d η3 e3
        cases w
        exact ⟨η2, T, r2, .exc nm d, η', e3, fun cls dd σ' H' s r q => p cls dd σ' H' (s2.trans s) r q⟩
      · cases w
  · cases eo
end
end L2.DL
end
section
set_option Elab.async false
set_option linter.all false
set_option maxRecDepth 100000
set_option maxHeartbeats 2000000
/-! an own error: super().__init__('..'); self.value = value -/
namespace PySem
namespace CutX
open PySem.W PySem.Calls PyProof.Rows PySem.HandSPX
def iA : Arguments := { posonlyargs := [], args := [{ arg := "self", annotation := none, pos := ⟨4, 17, 4, 21⟩ }, { arg := "value", annotation := none, pos := ⟨4, 23, 4, 28⟩ }], vararg := none, kwonlyargs := [], kw_defaults := [], kwarg := none, defaults := [] }
def iB : List Stmt :=
  [.Expr (.Call (.Attribute (.Call (.Name "super" ⟨5, 8, 5, 13⟩) [] [] ⟨5, 8, 5, 15⟩) "__init__" ⟨5, 8, 5, 24⟩) [.Constant (.str "cutswhole") 0 ⟨5, 25, 5, 36⟩] [] ⟨5, 8, 5, 37⟩) ⟨5, 8, 5, 37⟩,
   .Assign [.Attribute (.Name "self" ⟨6, 8, 6, 12⟩) "value" ⟨6, 8, 6, 18⟩] (.Name "value" ⟨6, 21, 6, 26⟩) ⟨6, 8, 6, 26⟩]
def iS : Scope := { kind := .function, names := [(PySem.Str.ofString "self", .local), (PySem.Str.ofString "value", .local), (PySem.Str.ofString "__class__", .free), (PySem.Str.ofString "super", .globalImplicit)], isGenerator := false, isCoroutine := false, more := [] }
/-- what the written part says of an error class at C, under CutError at D, whose __init__ stands at fI -/
structure CutTxt (P : Program) (K : Frag) (C D fI : Addr) : Prop where
  cls : ∃ nm q N bs bm sn sub ab col dd k0 k1 k2 k3 k5, K.lookup C = some (excClassObj nm q C N bs bm true sn sub ab col dd k0 k1 k2 k3 k5 "ValueError.__new__") ∧ refsVE bm = true
  sa : findIn K (.ref C) "__setattr__" = some (some (.builtin "object.__setattr__"))
  noN : findIn K (.ref C) "value" = some none
  iC : findIn K (.ref C) "__init__" = some (some (.ref fI))
  tC : typeIn K (.ref fI) = some (.type "function")
  kC : keepIn K (.ref C) = true
  exC : subIn K (.ref C) (.type "BaseException") = some true
  tyC : typeIn K (.ref C) = some (.type "type")
  veC : subIn K (.ref C) (.type "ValueError") = some true
  mD : mroIn K C (.ref D) = some true
  sp : ks_superIn K C D "__init__" = some (some (.builtin "ValueError.__init__"))
  tp : nsIn K cStatics "thirdparty.any" = some none
  cD : (clsIn K D).isSome = true
  nS : nsIn K mainGlobals "super" = some none
  top : (P.main.scope.names.lookup ("super" : Str)).isSome = false
  fn : ∃ (oc : Value) (od : Option Addr) (doc pm : Value) (an : Option Addr) (cda cc : Addr) (ct : Value) (osl : Array (Option Value)) (ccl : Value) (cdd : Option Addr) (vs : Array Value) (ccs : Array (Option Value)) (file : Str) (tf : Tok) (cl : Value) (cld : Option Addr) (csl : Array (Option Value)),
    K.lookup fI = some ⟨oc, od, .func (ksFn "__init__" "CutError.__init__" iA iB iS .none .none doc pm an (.ref cda) ct cc), osl⟩ ∧ codeIn K (.ref cda) "CutError.__init__" = true ∧
    K.lookup cda = some ⟨ccl, cdd, .fields vs, ccs⟩ ∧ vs[2]? = some (.str file tf) ∧ ((P.main.file : Str) == file) = true ∧ K.lookup cc = some ⟨cl, cld, .cell (some (.ref D)), csl⟩
theorem one_size (v : Value) : [v].length ≤ sizeLine := by
  rw [sizeLine_eq]
  exact (by decide : 1 ≤ 16777216)
theorem in_but {K : Frag} {h h' : Heap} {x : Addr} (X : K.In h) (hx : K.lookup x = none) (k : ∀ b o, b ≠ x → h.get? b = some o → h'.get? b = some o) : K.In h' := fun a o e =>
  k a o (fun z => by rw [z, hx] at e; cases e) (X a o e)
/-- what __init__ leaves of a fresh exception at x -/
structure InitEnd (h h' : Heap) (x C dx t1 : Addr) (v : Value) : Prop where
  keep : ∀ b o, b ≠ x → h.get? b = some o → h'.get? b = some o
  obj : h'.get? x = some { cls := .ref C, dict := some dx, data := .fields #[.ref t1, .none, .none, .none, .bool false, .none] }
  dbig : h.objs.size ≤ dx
  dne : dx ≠ x
  ns : h'.Ns1 dx (fun y => if y = "value" then some v else none)
/-- a made error -/
structure OwnMade (h h' : Heap) (e C d : Addr) (v : Value) : Prop where
  keep : ∀ b o, h.get? b = some o → h'.get? b = some o
  new : h.objs.size ≤ e
  obj : ∃ oe vs, h'.get? e = some oe ∧ oe.cls = .ref C ∧ oe.dict = some d ∧ oe.data = .fields vs ∧ vs[1]? = some .none
  dbig : h.objs.size ≤ d
  dne : d ≠ e
  ns : h'.Ns1 d (fun y => if y = "value" then some v else none)
section
variable {prog : Program} {w : World} {A : Around} {E : Value → Shared → Prop} {h : Heap} {g : Array GenState} {d : Drawn} {t : Nat} {os : OsState}
variable {nm q : Str} {C N : Addr} {bs bm : List Value} {hdct : Bool} {sn : List Str} {sub : List Value} {ab : Bool} {col : Option Bool} {dd : Option Addr} {k0 k1 k2 k3 k5 : Option Value}
/-- ValueError.__init__ bound to an instance, called -/
theorem call_mw {u e t0 : Addr} {rest : List Value} {Q : Value → Shared → Prop}
    (hC : h.get? C = some (excClassObj nm q C N bs bm hdct sn sub ab col dd k0 k1 k2 k3 k5 "ValueError.__new__")) (he : h.get? e = some (HandSPX.excO C t0)) (hu : h.get? u = some (kxs_mw "ValueError.__init__" e)) (hrest : rest.length ≤ sizeLine)
    (hq : ∀ h' t1, (∀ b o, b ≠ e → h.get? b = some o → h'.get? b = some o) → h'.get? e = some (HandSPX.excO C t1) → Q .none ⟨h', g, d, t, os⟩) :
    wpAny (model prog w) A (call (.ref u) rest) Q E ⟨h, g, d, t, os⟩ := by
  refine wpAny_call (codeAny_of_tree ?_)
  show wpAny _ A.in1 (callAny (.ref u) ⟨rest, []⟩) _ _ _
  simp only [callAny]
  refine wpAny_bind (wpAny_load hu ?_)
  simp only [kxs_mw, show (Value.type "method-wrapper" == Value.type "method" || Value.type "method-wrapper" == Value.type "builtin_function_or_method" || Value.type "method-wrapper" == Value.type "method-wrapper") = true by decide, if_true]
  refine W.KFB.if_so (by decide) ?_
  refine wpAny_bind (PySem.ESX.check_bound F.excBase_ValueError hC he rfl ?_)
  refine wpAny_bind (wpAny_pure (wpAny_pure ?_))
  refine ⟨Code.quiet_builtin _ (by decide +kernel), codeAny_builtin F.excBase_ValueError.initEntry ?_⟩
  rw [Around.under_plainId F.excBase_ValueError.init.plain _]
  wp_walk
  refine hq _ h.objs.size (fun b o hb ho => ?_) ?_
  · rw [Heap.get?_update_other _ _ (Ne.symm hb)]
    exact Heap.get?_push_of_some _ ho
  · rw [Heap.get?_update_self _ (Heap.get?_push_of_some _ he) rfl]
    rfl
end
section
variable {prog : Program} {w : World} {A : Around} {E : Value → Shared → Prop} {R : Result → Shared → Prop} {s : Shared} {K : Frag} {mg mb : Str → Option Value} {C D fI : Addr}
theorem cut_init (T : CutTxt prog K C D fI) {x t0 : Addr} {v : Value} (X : K.In s.heap) (hlim : s.heap.NoLimit) (hg : s.heap.Ns mainGlobals mg) (hb : s.heap.Ns builtinsNs mb) (hbb : ∀ x : Str, x ≠ "__name__" → mb x = bootBuiltins x)
    (hx : s.heap.get? x = some (excO C t0)) (hnx : K.lookup x = none) (hroom : A.depth < recursionLimit)
    (hq : ∀ h' tk dx t1, InitEnd s.heap h' x C dx t1 v → R (.ok (.ret .none)) { s with heap := h', toks := tk }) :
    codeAny (model prog w) A (.call (.ref fI) ⟨[.ref x, v], []⟩) R s := by
  obtain ⟨oc, od, doc, pm, an, cda, cc, ct, osl, ccl, cdd, vs, ccs, file, tf, cl, cld, csl, ho, hcd, hcda, hvs, hfile, hcc⟩ := T.fn
  obtain ⟨nm, q, N, bs, bm, sn, sub, ab, col, dd, k0, k1, k2, k3, k5, hC, hbm⟩ := T.cls
  have hcl : clsIn K C = some { name := nm, bases := bs, mro := .ref C :: bm, ns := N, qualname := q, hasDict := true, slotNames := sn, subclasses := sub, abstract := ab, collection := col, hasDel := false } := by unfold clsIn; rw [hC] <;> rfl
  obtain ⟨cdD, hD⟩ := Option.isSome_iff_exists.mp T.cD
  refine ks_codeAny_call_defAt (fd := ksFn "__init__" "CutError.__init__" iA iB iS .none .none doc pm an (.ref cda) ct cc) (body := iB) (binds := [("self", .ref x), ("value", v)])
    hroom (X _ _ ho) rfl hlim (codeRec_of X hcd) rfl (BindsTo.of_eq (by first | rfl | with_unfolding_all rfl)) (by first | decide | (show ∀ x ∈ iS.names, x.2 ≠ .cell; decide)) (by intro y hy; simp only [List.mem_cons, List.not_mem_nil, or_false] at hy; rcases hy with e | e <;> subst e <;> rfl) (fun h₁ hn k => ?_)
  have hxL : s.heap.objs.size ≠ x := Nat.ne_of_gt (Heap.lt_size hx)
  have X₁ : K.In h₁ := X.keeps k
  have hx₁ := k _ _ hx
  obtain ⟨sh, sg, sd, st, so⟩ := s
  -- super().__init__('..')
  refine ks_wpAt_execs_cons (ks_wpAt_Expr_any (ks_wpAt_MethodCall ?_))
  obtain ⟨oD, hD1, hD2⟩ : ∃ oD, h₁.get? D = some oD ∧ oD.data = .cls cdD := by
    unfold clsIn at hD
    split at hD
    · rename_i c d cd' sl ho
      cases hD
      exact ⟨_, X₁ _ _ ho, rfl⟩
    · cases hD
  refine ks_wpAt_super_base (of := _) (fd := ksFn "__init__" "CutError.__init__" iA iB iS .none .none doc pm an (.ref cda) ct cc) (ar := { arg := "self", annotation := none, pos := ⟨4, 17, 4, 21⟩ }) (f := fI) (cc := cda)
    (by rfl) (by rfl) (by decide) rfl (X₁ _ _ ho) rfl rfl rfl (X₁ _ _ hcda) rfl hvs hfile T.top ?_
  refine ks_loadName_global rfl (by rfl) (loadGlobal_builtin (hg.keeps k) (mg_none_of X hg T.nS) (hb.keeps k) ((hbb _ (by decide +kernel)).trans (by first | rfl | kernel_rfl)) ⟨rfl, ?_⟩)
  refine wpAny_loadName_free rfl (by rfl) rfl ⟨_, X₁ _ _ hcc, rfl⟩ ?_
  refine wpAny_loadName_local rfl (by rfl) hn (v := .ref x) (by first | rfl | with_unfolding_all rfl | kernel_rfl) ?_
  refine ks_wpAny_isType_cls hD1 hD2 ⟨rfl, ?_⟩
  refine ks_wpAny_call_super hD1 hD2 hx₁ rfl (fun c e => by cases e) (looks_mroIn X₁ T.mD) (fun h₂ e₂ k₂ => ?_)
  have X₂ : K.In h₂ := X₁.keeps k₂
  have hx₂ := k₂ _ _ hx₁
  -- the method
  have hsp : alongIn K "__init__" (((Value.ref C :: bm).dropWhile (· != .ref D)).drop 1) = some (some (.builtin "ValueError.__init__")) := by
    have z := T.sp
    unfold ks_superIn at z
    rw [hcl] at z
    exact z
  have I₂ : InstAt h₂ x (excO C t0) C none := ⟨hx₂, rfl, rfl, trivial⟩
  refine kxs_getMethod kxs_ValueError e₂ (looks_opaque X₂ T.tp) (l₀ := .ref C :: bm) (fun A Q E s k q => wpAny_bind ((looks_clsIn X₂ hcl) A _ E s k (wpAny_pure q))) rfl X₂ hsp (I₂.type.andThen (looks_subIn X₂ T.veC)) (fun z => by
    have a := X₂ _ _ hC
    rw [← z, hx₂] at a
    cases a) (by decide) ?_
  show wpAny _ _ (callWith ⟨5, 8, 5, 37⟩ (.ref h₂.objs.size) [] (backTo ⟨5, 8, 5, 37⟩ (starEach [.Constant (.str "cutswhole") 0 ⟨5, 25, 5, 36⟩] _)) []) _ _ _
  refine kxs_callWith (i := "ValueError.__init__") (x := x) rfl (evalArgs_plain (PyProof.Rows.args_cons (wpAny_Constant_str (PyProof.Rows.args_nil ?_)) rfl))
  have hu : (h₂.push (kxs_mw "ValueError.__init__" x)).get? h₂.objs.size = some (kxs_mw "ValueError.__init__" x) := Heap.get?_push_size _ rfl
  have k₃ : ∀ b o, h₂.get? b = some o → (h₂.push (kxs_mw "ValueError.__init__" x)).get? b = some o := fun b o e => Heap.get?_push_of_some _ e
  refine ⟨hu, ?_⟩
  have X₃ : K.In (h₂.push (kxs_mw "ValueError.__init__" x)) := X₂.keeps k₃
  refine call_mw (X₃ _ _ hC) (k₃ _ _ hx₂) hu (one_size _) fun h₄ t1 k₄ hx₄ => ?_
  have kA : ∀ b o, b ≠ x → sh.get? b = some o → h₄.get? b = some o := fun b o nb e => k₄ b o nb (k₃ b o (k₂ b o (k b o e)))
  have X₄ : K.In h₄ := in_but X₃ hnx k₄
  have hn₄ : h₄.Ns sh.objs.size (fun y => [(("self" : Str), Value.ref x), (("value" : Str), v)].reverse.lookup y) := by
    obtain ⟨o, es, ep, e, d2, r⟩ := hn
    exact ⟨o, es, ep, k₄ _ o hxL (k₃ _ o (k₂ _ o e)), d2, r⟩
  -- self.value = value
  refine wpAt_of_wpAny ?_
  show wpAny _ _ (execs _ _) _ _ _
  refine wpAny_execs_cons (plainObj_wpAny_Assign_Attribute ?_)
  refine wpAny_Name (wpAny_loadName_local rfl (by rfl) hn₄ (v := v) (by first | rfl | with_unfolding_all rfl | kernel_rfl) ?_)
  refine wpAny_Name (wpAny_loadName_local rfl (by rfl) hn₄ (v := .ref x) (by first | rfl | with_unfolding_all rfl | kernel_rfl) ?_)
  refine set_plain X₄ (ox := excO C t1) (od := none) ⟨hx₄, rfl, rfl, trivial⟩ T.sa ?_
  refine exc_osa X₄ hx₄ hcl (show refsVE (.ref C :: bm) = true from hbm) rfl T.noN (fun h₅ tk₅ dx k₅ dn dne hx₅ hn₅ => ?_)
  show wpAny _ _ (execs _ _) _ _ _
  have sz : sh.objs.size < h₄.objs.size := hn₄.lt
  exact wpAny_execs_nil (hq h₅ tk₅ dx t1 ⟨fun b o hb e => k₅ b o hb (kA b o hb e), hx₅, Nat.le_trans (Nat.le_of_lt sz) dn, dne, hn₅⟩)
theorem cut_made (T : CutTxt prog K C D fI) {v : Value} (X : K.In s.heap) (hlim : s.heap.NoLimit) (hg : s.heap.Ns mainGlobals mg) (hb : s.heap.Ns builtinsNs mb) (hbb : ∀ x : Str, x ≠ "__name__" → mb x = bootBuiltins x) (hroom : A.depth + 1 < recursionLimit)
    (hq : ∀ h' tk e d, OwnMade s.heap h' e C d v → R (.ok (.ret (.ref e))) { s with heap := h', toks := tk }) :
    codeAny (model prog w) A (.call (.ref C) ⟨[v], []⟩) R s := by
  obtain ⟨nm, q, N, bs, bm, sn, sub, ab, col, dd, k0, k1, k2, k3, k5, hC, hbm⟩ := T.cls
  obtain ⟨hp, g, dr, tk, os⟩ := s
  have k : ∀ b o, hp.get? b = some o → ((hp.push (kdv_tup [v])).push (excO C hp.objs.size)).get? b = some o := fun b o e => Heap.get?_push_of_some _ (Heap.get?_push_of_some _ e)
  have hget : ((hp.push (kdv_tup [v])).push (excO C hp.objs.size)).get? (hp.objs.size + 1) = some (excO C hp.objs.size) := by heap_get
  have hnx : K.lookup (hp.objs.size + 1) = none := by
    cases e : K.lookup (hp.objs.size + 1) with
    | none => rfl
    | some o =>
      have z : hp.get? (hp.objs.size + 1) = some o := X _ _ e
      exact absurd (Nat.lt_of_succ_lt (Heap.lt_size z)) (Nat.lt_irrefl _)
  refine call_own F.excBase_ValueError (fun X => refsVE_contains X bm hbm) (X _ _ hC) (looks_findIn X T.iC) (fun self => bind_fn X self T.tC) (one_size v) ?_
  refine cut_init (s := ⟨(hp.push (kdv_tup [v])).push (excO C hp.objs.size), g, dr, tk, os⟩) T (X.keeps k) (hlim.keeps k) (hg.keeps k) (hb.keeps k) hbb hget hnx ?_ fun h' tk' dx t1 ⟨k', hx, dn, dne, hns⟩ => ?_
  · show A.depth + 1 < recursionLimit
    exact hroom
  · have old : ∀ b o, hp.get? b = some o → h'.get? b = some o := fun b o e => k' b o (Nat.ne_of_lt (Nat.lt_succ_of_lt (Heap.lt_size e))) (k b o e)
    have z : hp.objs.size + 1 + 1 ≤ dx := by
      first
        | (simpa only [Heap.size_push] using dn)
        | exact dn
        | (have q := dn; rw [Heap.size_push, Heap.size_push] at q; exact q)
    exact ⟨rfl, hq h' tk' (hp.objs.size + 1) dx ⟨old, Nat.le_succ _, ⟨_, _, hx, rfl, rfl, rfl, rfl⟩, Nat.le_trans (Nat.le_trans (Nat.le_succ _) (Nat.le_succ _)) z, dne, hns⟩⟩
end
end CutX
end PySem

namespace L2.DL
open PySem PySem.Spec PyProof.Rows
set_option autoImplicit false
theorem relO_val {v : V} {v' : Value} (r : RelV v v') (f : Str) : RelO (List.lookup f [(("value" : Str), v)]) (if f = "value" then some v' else none) := by
  by_cases hw : f = "value"
  · subst hw
    rw [if_pos rfl]
    have q : List.lookup ("value" : Str) [(("value" : Str), v)] = some v := by simp [List.lookup]
    rw [q]
    exact r
  · rw [if_neg hw]
    have qw : (f == ("value" : Str)) = false := by simpa using hw
    have q2 : List.lookup f [(("value" : Str), v)] = none := by simp [List.lookup, qw]
    rw [q2]
    trivial
section
variable {X : Cx} {W : WX} {C D fI : Addr} {k : Nat} {a : Expr} {ma : MX PyData} {x : Str} {p pos pos2 : Pos}
def mRaise (nm : Str) (m : MX PyData) : MX Fl := mBind m fun d => fun η => some (.exc nm d, η)
theorem pmk_cut {ta : TA} (T : PySem.CutX.CutTxt X.prog X.K C D fI) (gC : X.mg x = some (.ref C)) (hr : Room k X.A) (ha : PA X [a] ta) (hg : Gl X x) (hdb : (x == ("__debug__" : Str)) = false := by decide)
    (he : starEach (a :: []) X.env = (false, eval a X.env) :: starEach [] X.env := by rfl) (hpl : (backTo pos (starEach [] X.env)).any (·.1) = false := by rfl) :
    PMk X (.Call (.Name x p) [a] [] pos) (fun σ H Q => ta σ H fun vs H1 => ∃ v, vs = [v] ∧ ∀ d, H1 d = none → Q (.ref C) (some d) (upd H1 d (.xd [(("value" : Str), v)]))) := by
  intro pins s σ H Q I h
  refine wpAny_Call_Name_kw (ld_glob I hg gC ?_ hdb)
  refine PySem.W.callWith_K (h₀ := X.base) I.ok.mod.kin T.kC (thn (ha.run pos pins s σ H _ I h) fun us s1 hh => ?_) he hpl
  obtain ⟨vs, H1, I1, r1, v, ev, q1⟩ := hh
  subst ev
  refine ⟨I1.kIn, ?_⟩
  cases r1 with
  | cons rv rn =>
    rename_i v' us'
    cases rn
    show wpAny _ _ (call (.ref C) [v']) _ _ _
    have hlim := I1.nolimit
    have hgl := I1.ok.mod.glob.keeps I1.bk
    obtain ⟨mb, hbl, hbb⟩ := I1.ok.mod.blt
    have hbl' := hbl.keeps I1.bk
    obtain ⟨hp, g, dr, tk, os⟩ := s1
    refine wpAny_call (PySem.CutX.cut_made T I1.kIn hlim hgl hbl' hbb (by have := hr.dp; omega) fun h' tk' e d M => ?_)
    show MkP X pins σ Q (.ref e) ⟨h', g, dr, tk', os⟩
    obtain ⟨oe, fv, hoe, hc, hd, hdat, h1⟩ := M.obj
    have hns := M.ns
    obtain ⟨G', g1, g2⟩ := restrict h' fun b => decide (b ≠ e)
    have gk : ∀ b, b ≠ e → G'.get? b = h'.get? b := fun b hb => g1 b (decide_eq_true hb)
    have ge : G'.get? e = none := g2 e (by simp)
    have old : ∀ b o, hp.get? b = some o → G'.get? b = some o := fun b o q => (gk b (Nat.ne_of_lt (Nat.lt_of_lt_of_le (Heap.lt_size q) M.new))).trans (M.keep b o q)
    have ob : ObjOk X.prog X.w (upd H1 d (.xd [(("value" : Str), v)])) G' d (.xd [(("value" : Str), v)]) :=
      ⟨_, hns.at (fun o q => (gk d M.dne).trans q), fun f => relO_val rv f⟩
    have J : Inv X pins σ (upd H1 d (.xd [(("value" : Str), v)])) ⟨G', g, dr, tk', os⟩ := I1.laid (t' := tk') old M.dbig ob
    refine ⟨e, oe, fv, ⟨G', g, dr, tk', os⟩, _, .ref C, some d, rfl, J, fun b o q => ?_, ge, hoe, ⟨hc, hd⟩, hdat, h1, ?_, rfl, I1.bare, raises_own T.exC T.tyC, q1 d (I1.hok.fresh M.dbig)⟩
    · by_cases hb : b = e
      · have q' : G'.get? b = some o := q
        rw [hb, ge] at q'; cases q'
      · exact (gk b hb).symm.trans q
    · rw [upd_ne (Ne.symm M.dne)]
      exact I1.hok.fresh M.new
/-- raise X(e) -/
theorem ds_raise (hc : X.calm = true) (T : PySem.CutX.CutTxt X.prog X.K C D fI) (gC : X.mg x = some (.ref C)) (gd : Gd X k) (tk : Takes X W) (ha : DE X W a ma) (hg : Gl X x) (hdb : (x == ("__debug__" : Str)) = false := by decide)
    (he : starEach (a :: []) X.env = (false, eval a X.env) :: starEach [] X.env := by rfl) (hpl : (backTo pos (starEach [] X.env)).any (·.1) = false := by rfl) :
    DS X W (.Raise (some (.Call (.Name x p) [a] [] pos)) none pos2) (mRaise x ma) := by
  refine PS.imp (ps_raise hc tk (pmk_cut T gC gd.room (pa_cons ha pa_nil he) hg hdb he hpl)) fun Ds σ H ⟨η, T', r0, n0⟩ => ⟨η, T', r0, n0.bind fun d η1 e1 n1 v H1 s1 r1 q1 => ?_⟩
  obtain ⟨o, η', eo, pz⟩ := n1
  cases eo
  refine ⟨v, rfl, fun dd hd => ?_⟩
  have k : More H1 (upd H1 dd (.xd [(("value" : Str), v)])) := More.upd hd
  exact pz (.ref C) (some dd) σ _ (s1.trans (StepS.more k)) (r1.more k) ⟨C, dd, v, gC, rfl, rfl, upd_same, q1.more r1.lists k⟩
end
end L2.DL
end
section
set_option Elab.async false
set_option linter.all false
set_option maxRecDepth 100000
set_option maxHeartbeats 4000000
namespace PySem.W
open PySem PySem.Spec PySem.Calls PyProof.Rows
section
variable {prog : Program} {w : World} {A : Around} {E : Value → Shared → Prop} {s : Shared} {K : Frag} {x D : Addr} {ox : Obj}
theorem findObj_dataO {C : Addr} {name : Str} {a g : Value} {od : Option Obj} (hc : (clsIn K C).isSome = true) (ha : findIn K (.ref C) name = some (some a)) (hg : specialIn K a "__get__" = some (some g)) (ht : takesIn K a = some true) : findObj K C od name = some (.bind g a) := by
  obtain ⟨cd, hc⟩ := Option.isSome_iff_exists.mp hc
  unfold findObj
  rw [hc, Option.bind_some, ha, Option.bind_some]
  simp [hg, ht]
theorem kin_classO {Q : Option Value → Shared → Prop} {od : Option Obj} (hga : findIn K (.ref D) "__getattribute__" = some (some (.builtin "BaseException.__getattribute__"))) (hgt : findIn K (.ref D) "__getattr__" = some none) (hsub : subIn K (.ref D) (.type "BaseException") = some true)
    (hdct : hasDictIn K D = true) (ha : findIn K (.ref D) "__class__" = some (some (.builtin "object.__class__")))
    (hn : specialIn K (.builtin "object.__class__") "__get__" = some (some (.builtin "getset_descriptor.__get__"))) (htk : takesIn K (.builtin "object.__class__") = some true) (hm : mroIn K D (.type "object") = some true)
    (X : K.In s.heap) (I : InstAt s.heap x ox D od) (h : Q (some (.ref D)) { s with toks := s.toks + 1 }) : wpAny (model prog w) A (getAttr? (.ref x) "__class__") Q E s := by
  have hf : findObj K D od "__class__" = some (.bind (.builtin "getset_descriptor.__get__") (.builtin "object.__class__")) := findObj_dataO (by obtain ⟨cd, hc, _⟩ := any_some hdct; rw [hc]; rfl) ha hn htk
  obtain ⟨hp, g, d, t, os⟩ := s
  have L0 := I.type (M := model prog w)
  have L1 := looks_findIn (M := model prog w) X hga
  have L2 := looks_findIn (M := model prog w) X hgt
  have L3 := looks_find (M := model prog w) X I hf
  have sub : Looks (model prog w) hp (isInstance (.ref x) (.type "BaseException")) true := L0.andThen (looks_subIn X hsub)
  have hx0 : (false && onTheHeap (Value.builtin "BaseException.__getattribute__")) = false := rfl
  have hx2 : (Value.builtin "BaseException.__getattribute__" == Value.builtin "object.__getattribute__") = false := by decide +kernel
  have hx1 : (onTheHeap (Value.ref D) && Value.builtin "BaseException.__getattribute__" == Value.builtin "object.__getattribute__") = false := by rw [hx2]; rfl
  unfold getAttr? getAttrBy? getAttrBy
  refine wpAny_bind (wpAny_mkText (wpAny_bind (wpAny_attempt (wpAny_holding (wpAny_bind (L0.at (wpAny_bind (L1.at ?_))))))))
  show wpAny _ _ (if (onTheHeap (Value.ref D) && Value.builtin "BaseException.__getattribute__" == Value.builtin "object.__getattribute__") = true then _ else _) _ _ _
  rw [hx1, if_neg Bool.false_ne_true]
  unfold getAttrByItsOwn hookBefore
  refine wpAny_bind ?_
  rw [if_pos (show onTheHeap (Value.ref D) = true from rfl)]
  refine L2.at ?_
  refine wpAny_bind (wpAny_attempt (wpAny_holding ?_))
  unfold callGetattribute
  rw [hx0, if_neg Bool.false_ne_true]
  unfold boundAndCalled
  rw [PySem.F.excAttr_ValueError.ga.bind (.ref x)]
  refine wpAny_bind (wpAny_pure ?_)
  show wpAny _ _ (call (.builtin "BaseException.__getattribute__") [.ref x, .str "__class__" t]) _ _ _
  refine wpAny_call (codeAny_call_builtin PySem.F.excAttr_ValueError.ga.plain PySem.F.entry_bexc_ga ?_)
  refine @check_slot (model prog w) _ _ ⟨hp, g, d, t + 1, os⟩ "BaseException.__getattribute__" "BaseException" "__getattribute__" (.ref x) [.str "__class__" t] [] _ (by decide +kernel) (by decide +kernel) sub (PySem.F.args_bexc_ga (.ref x) (.str "__class__" t)) ?_
  unfold Builtin.«object.__getattribute__»
  refine wpAny_bind (wpAny_of_eq (a := ((Value.ref x : Value), [Value.str "__class__" t])) (by first | rfl | (simp only [slotArgs]; rfl)) ?_)
  refine wpAny_bind (wpAny_pure (wpAny_bind (L0.at (wpAny_bind (L3.at ?_)))))
  show wpAny _ _ (holding [Value.builtin "object.__class__"] (call (.builtin "getset_descriptor.__get__") [.builtin "object.__class__", .ref x, .ref D]) >>= ret) _ _ _
  refine wpAny_bind (wpAny_holding (wpAny_call (class_get (s := ⟨hp, g, d, t + 1, os⟩) (ox := ox) (od := od) X I hm ?_)))
  refine wpAny_pure ?_
  show wpAny _ _ (handedOut (.ref D)) _ _ _
  rw [handedOut_of (v := .ref D) rfl]
  first
    | exact wpAny_pure (wpAny_pure h)
    | exact wpAny_pure h
    | exact wpAny_pure (wpAny_bind (wpAny_pure (wpAny_pure h)))
theorem kitx_excO {od : Option Obj} (hga : findIn K (.ref D) "__getattribute__" = some (some (.builtin "BaseException.__getattribute__"))) (hgt : findIn K (.ref D) "__getattr__" = some none) (hsub : subIn K (.ref D) (.type "BaseException") = some true) (hdct : hasDictIn K D = true) (ha : findIn K (.ref D) "__class__" = some (some (.builtin "object.__class__")))
    (hn : specialIn K (.builtin "object.__class__") "__get__" = some (some (.builtin "getset_descriptor.__get__"))) (htk : takesIn K (.builtin "object.__class__") = some true) (hm : mroIn K D (.type "object") = some true) :
    KitX K (.ref x) (.ref D) (fun h => InstAt h x ox D od) where
  ty := fun _ _ _ I => I.type
  it := fun _ _ X _ => by
    obtain ⟨cdD, hcD, _⟩ := any_some hdct
    unfold clsIn at hcD
    split at hcD
    · rename_i c' d' cd' sl' ho
      intro A' Q' E' s' k q
      unfold isType loadHead
      exact wpAny_bind (wpAny_loadPart (k _ _ (X _ _ ho)) (wpAny_pure q))
    · cases hcD
  ne := fun h tp dd its n sl X htp => by
    obtain ⟨cdD, hcD, _⟩ := any_some hdct
    refine Bool.eq_false_iff.mpr fun q => ?_
    have e : D = tp := Value.ref.inj (beq_iff_eq.mp q)
    subst e
    unfold clsIn at hcD
    split at hcD
    · rename_i c' d' cd' sl' ho
      have z := (X _ _ ho).symm.trans htp
      cases z
    · cases hcD
  ca := fun X I k => kin_classO hga hgt hsub hdct ha hn htk hm X I k
end
end PySem.W
namespace L2
open PySem PySem.Spec PyProof.Rows
section
variable {X : Cx} {pins : List (Addr × Obj)} {σ : St} {H : Hp} {s : Shared}
/-- an object that came since the entry is told of -/
theorem Inv.track {a : Addr} {o : HO} {oa : Obj} (I : Inv X pins σ H s) (h0 : X.s_0.heap.get? a = none) (hn : H a = none) (nL : a ≠ X.env.locals) (ha : s.heap.get? a = some oa) (nc : ∀ v, oa.data ≠ .cell v) (np : ∀ p ∈ X.pn ++ pins, p.1 ≠ a) (new : ObjOk X.prog X.w (upd H a o) s.heap a o) :
    Inv X pins σ (upd H a o) s := by
  refine ⟨I.ok, I.os, I.bare, ⟨I.base.keep, I.base.slot, fun b u q n hx => ?_, I.base.there, fun b xs q => ?_, fun b u xs q => ?_, fun b ps q => ?_⟩, I.loc, I.cell, ?_, fun x c e => ?_, fun p hp => ?_, I.hok.laidN (fun _ _ q => q) hn new, I.len⟩
  · rw [upd_ne (fun z => by rw [z, h0] at q; cases q)]
    exact I.base.free b u q n hx
  · have z := I.base.tups b xs q
    rw [upd_ne (ne_of_none z hn)]; exact z
  · have z := I.base.frzs b u xs q
    rw [upd_ne (ne_of_none z hn)]; exact z
  · obtain ⟨more, z⟩ := I.base.tbls b ps q
    exact ⟨more, by rw [upd_ne (ne_of_none z hn)]; exact z⟩
  · rw [upd_ne (Ne.symm nL)]; exact I.free
  · obtain ⟨v, oc, e1, e2⟩ := I.cell x c e
    rw [upd_ne (fun z => by rw [z, ha] at e1; cases e1; exact nc _ e2)]
    exact I.freeC x c e
  · obtain ⟨e1, e2, e3⟩ := I.pin p hp
    exact ⟨e1, by rw [upd_ne (np p hp)]; exact e2, e3⟩
end
def φE (cls : Value) (d : Option Addr) (a : Addr) : Heap → Prop := fun h => ∃ (oe : Obj) (vs : Array Value), h.get? a = some oe ∧ Zc cls d oe ∧ oe.data = .fields vs
/-- what the clause 'except x as n' wishes, where the suite ends and the error is kept -/
def wKeep (K : PySem.W.Frag) (c : Value) (i : Nat) (ts : Addr → Value → Option Addr → TS) (Wout : WX) (D : Ends) : WX := fun cls d σ H =>
  ∃ b, PySem.W.exmOne K cls c = some b ∧ (b = true → ∀ a, H a = none → ts a cls d { nx := fun σ' H' => D.nx (σ'.set i none) (upd H' a (.ext (φE cls d a))), rt := fun _ _ => False, bk := fun _ _ => False, ct := fun _ _ => False } (σ.set i (some (.ref a))) H) ∧
    (b = false → Wout cls d σ H)
section
variable {X : Cx} {x n : Str} {c : Value} {i : Nat} {body suite : List Stmt} {b₀ : Stmt} {np pos pos' : Pos} {tb : WX → TS} {ts : Addr → Value → Option Addr → TS} {Wout : WX}
theorem ps_try_keep (hex : X.ex = []) (hs : X.stack = X.env :: X.outer) (hf : X.env.frame = some X.env.locals) (hN : X.N.Nodup) (hi : X.N[i]? = some n) (hln : X.env.kindOf n = some .local) (hc : Names X x c) (tk : Takes X Wout)
    (hb : ∀ (W : WX) (pn : List (Addr × Obj)) (xe : Value → Shared → Prop), Takes (X.tr pn xe) W → PassesOwn (model X.prog X.w) X.A X.env xe → PSs (X.tr pn xe) body (tb W))
    (hsu : ∀ (a : Addr) (oe : Obj) (cls : Value) (d : Option Addr) (pn : List (Addr × Obj)), Zc cls d oe → (∃ vs, oe.data = .fields vs) → PSs (X.suite a ((a, oe) :: pn)) (b₀ :: suite) (ts a cls d)) :
    PS X (.Try body [.ExceptHandler (some (.Name x np)) (some n) (b₀ :: suite) pos'] [] [] pos) (fun D σ H => tb (wKeep X.K c i ts Wout D) D σ H) := by
  refine ⟨fun pins s σ H D I h => ?_⟩
  have ok := I.ok
  have hfr : X.A.frames = some (X.env :: X.outer) := by rw [ok.frames, hs]
  have hloc : Loc X.env.scope n := .inl hln
  refine wpAny_Try_except ?_
  refine wpAny_mono ((hb (wKeep X.K c i ts Wout D) (X.pn ++ pins) (fun e s₁ => wpAny (model X.prog X.w) X.A (noteFrame e X.env) (fun _ s₂ => wpAny (model X.prog X.w) X.A (setFlight e none) (fun _ s₃ =>
    wpAny (model X.prog X.w) X.A (handleBy e X.env [.ExceptHandler (some (.Name x np)) (some n) (b₀ :: suite) pos']) (SP X pins D) X.xe s₃) X.xe s₂) X.xe s₁) (fun u s' xx => ?_) PassesOwn.looking).run [] s σ H D (I.toTry _) h) (fun f s1 hsp => ?_) (fun e s1 he => he)
  · -- the catch
    obtain ⟨a, B, sI, pins', σ', H', cls, d, rfl, J', nb, up, sky, na, os, ag, b, hb1, hyes, hno⟩ := xx
    have J : Inv X pins σ' H' sI := J'.ofTry ok
    have sky' : Sky B (X.env :: X.outer) a (Zc cls d) X.env.locals s'.heap := by rw [← hs]; exact sky
    show wpAny (model X.prog X.w) X.A (noteFrame (.ref a) X.env) _ _ _
    refine Sky.land Zc.steady hfr hf sky' fun h3 fl3 up3 => ?_
    have J3 : Inv X pins σ' H' { s' with heap := h3 } := J.landed nb fl3.1 (up.trans up3) os ag
    obtain ⟨oe3, vs3, he3, hz3, hd3⟩ := fl3.there
    have notFr : ∀ {h : Heap} {o : Obj} {vs : Array Value}, h.FunFrames B (X.env :: X.outer) → h.get? a = some o → o.data = .fields vs → a ∉ frs (X.env :: X.outer) := fun {h o vs} ff e dd hm => by
      obtain ⟨_, o', e', hnf⟩ := ff.mem hm
      rw [e] at e'; cases e'
      exact hnf _ dd
    have nfr := notFr fl3.2.2.1 he3 hd3
    have nL : a ≠ X.env.locals := fun z => nfr (List.mem_filterMap.mpr ⟨X.env, List.mem_cons_self, by rw [hf, z]⟩)
    have nF : a ∉ X.fs := fun hm => by
      obtain ⟨e, he, q⟩ := List.mem_filterMap.mp hm
      exact nfr (List.mem_filterMap.mpr ⟨e, List.mem_cons_of_mem _ he, q⟩)
    have S3 := J3.suite he3 hd3 na nL nF
    refine wpAny_handleBy_cons (codeAny_handlers_test ?_) (by intro q; cases q)
    have LT : PySem.W.Looks (model X.prog X.w) h3 (typeOf (.ref a)) cls := fun A Q E s k q => wpAny_typeOf_ref (k _ _ he3) (by rw [hz3.1]; exact q)
    have LM := PySem.W.exm_one (M := model X.prog X.w) (J3.kIn) LT hb1
    have test : ∀ {Q : Value → Shared → Prop} {E : Value → Shared → Prop}, Q c { s' with heap := h3 } → wpAny (model X.prog X.w) (X.A.mark (some (.ref a))) (eval (.Name x np) X.env) Q E { s' with heap := h3 } := fun {Q E} q => by
      obtain ⟨hg, hdbg, hm | ⟨hm, hv, hnn⟩⟩ := hc
      · exact ld_glob (X := X.suite a ((a, oe3) :: (X.pn ++ pins))) S3 hg hm q hdbg
      · exact ld_blt (X := X.suite a ((a, oe3) :: (X.pn ++ pins))) S3 hg hm hv q hnn hdbg
    refine test (LM.here ?_)
    cases b with
    | true =>
      refine codeAny_handlers_suite_as ?_
      refine HandSPX.lands_againZ fl3 fun h4 fl4 up4 => ?_
      have J4 : Inv X pins σ' H' { s' with heap := h4 } := J.landed nb fl4.1 ((up.trans up3).trans up4) os ag
      obtain ⟨oe4, vs4, he4, hz4, hd4⟩ := fl4.there
      have S4 := J4.suite he4 hd4 na nL nF
      refine store_ok (X := X.suite a ((a, oe4) :: (X.pn ++ pins))) (v := .ref a) S4 hN hi hloc rfl (fun s5 S5 => ?_) (.inr hln)
      refine wpAny_mono ((hsu a oe4 cls d (X.pn ++ pins) hz4 ⟨_, hd4⟩).run [] s5 _ H' _ S5 (hyes rfl a na)) (fun f s6 hsp => ?_) (fun _ _ z => False.elim z)
      have hB : B.get? a = none := fl4.2.1
      have hsI : sI.heap.get? a = none := by
        cases e : sI.heap.get? a with
        | none => rfl
        | some o =>
          have z := nb a o e (by rw [hs]; exact nfr)
          rw [hB] at z; cases z
      have hs0 : X.s_0.heap.get? a = none := by
        cases e : X.s_0.heap.get? a with
        | none => rfl
        | some o =>
          obtain ⟨o', z⟩ := J.base.there a o e (by rw [hex]; exact fun z => nomatch z)
          rw [hsI] at z; cases z
      have hpn : ∀ p ∈ X.pn ++ pins, p.1 ≠ a := fun p hp z => by
        have e := (J.pin p hp).1
        rw [z, hsI] at e; cases e
      cases f with
      | next =>
        obtain ⟨σ6, H6, S6, q6⟩ := hsp
        have p6 := S6.pin (a, oe4) (List.mem_append_left _ List.mem_cons_self)
        have P6 : Inv X ((a, oe4) :: pins) σ6 H6 s6 := (S6.unsuite ok).pins_of fun p hp => by
          rcases List.mem_cons.mp hp with e | hp
          · subst e; exact p6
          · exact (S6.unsuite ok).pin p (List.mem_append_right _ hp)
        refine gone_ok P6 hN hi hln fun s7 J7 => ?_
        have p7 := J7.pin (a, oe4) (List.mem_append_right _ List.mem_cons_self)
        have J8 : Inv X pins (σ6.set i none) H6 s7 := J7.pins_of fun p hp => J7.pin p (List.mem_append_right _ (List.mem_cons_of_mem _ hp))
        exact ⟨_, _, J8.track (o := .ext (φE cls d a)) hs0 p7.2.1 p7.2.2.1 p7.1 (fun v => p7.2.2.2.2 v) hpn ⟨⟨oe4, vs4, p7.1, hz4, hd4⟩, ⟨_, p7.1⟩, fun h1 h2 ⟨o, w, e1, e2, e3⟩ k => ⟨o, w, k _ e1, e2, e3⟩⟩, q6⟩
      | brk =>
        obtain ⟨σ6, H6, S6, q6⟩ := hsp
        exact q6.elim
      | cont =>
        obtain ⟨σ6, H6, S6, q6⟩ := hsp
        exact q6.elim
      | ret u =>
        obtain ⟨v6, σ6, H6, S6, r6, q6⟩ := hsp
        exact q6.elim
    | false =>
      show wpAny _ X.A (handleBy (.ref a) X.env []) _ _ _
      refine wpAny_handleBy_nil ?_
      obtain ⟨k1, k2, k3, oe, vs, T, oT, ts', he, hz, hd, h1, hr⟩ := id fl3
      unfold PySem.passOn
      refine wpAny_bind (wpAny_field he hd h1 ?_)
      rw [if_neg (show ¬ ((Value.ref T == Value.none) = true) from by simp)]
      have fin : wpAny (model X.prog X.w) X.A (setFlight (.ref a) X.env.frame) (fun _ s4 => wpAny (model X.prog X.w) X.A (throw (.ref a) : Sem Flow) (SP X pins D) X.xe s4) X.xe { s' with heap := h3 } := by
        rw [hf]
        refine HandSPX.setFlight_upZ fl3 fun h4 hh4 up4 => wpAny_throw (tk _ _ ?_)
        exact ⟨a, B, sI, pins, σ', H', cls, d, rfl, J, nb, (up.trans up3).trans up4, .inr (.inr (by rw [hs]; exact hh4)), na, os, ag, hno rfl⟩
      first
        | exact wpAny_bind (wpAny_pure (wpAny_bind fin))
        | exact wpAny_bind fin
  · cases f with
    | next =>
      obtain ⟨σ', H', J', q⟩ := hsp
      exact wpAny_execs_nil ⟨σ', H', J'.ofTry ok, q⟩
    | brk =>
      obtain ⟨σ', H', J', q⟩ := hsp
      exact ⟨σ', H', J'.ofTry ok, q⟩
    | cont =>
      obtain ⟨σ', H', J', q⟩ := hsp
      exact ⟨σ', H', J'.ofTry ok, q⟩
    | ret u =>
      obtain ⟨v, σ', H', J', r, q⟩ := hsp
      exact ⟨v, σ', H', J'.ofTry ok, r, q⟩
end
end L2
end
section
set_option Elab.async false
set_option linter.all false
set_option maxRecDepth 100000
namespace L2.DL
open PySem PySem.Spec PyProof.Rows
set_option autoImplicit false
section
variable {K : Fg} {mg : Str → Option Value} {σ : St} {H : Hp} {η : EnvD} {T : Addr → Prop}
/-- a name is stored: an error that is kept -/
theorem Rp.storeX {i : Nat} {a : Addr} {nm : Str} {d : PyData} (r : Rp K mg σ H η T) (hx : ExAt K mg H (Avd σ η T) a nm d) : Rp K mg (σ.set i (some (.ref a))) H (η.set i (some (.exc nm d))) T ∧ StepS σ H η (σ.set i (some (.ref a))) H (η.set i (some (.exc nm d))) := by
  have own : ∀ q, OwnAt (σ.set i (some (.ref a))) (η.set i (some (.exc nm d))) q → OwnAt σ η q := fun q ⟨j, b, ds, e1, e2⟩ => by
    rcases set_get e1 with ⟨_, e⟩ | ⟨ne, e⟩
    · cases e
    · rcases set_get e2 with ⟨e', _⟩ | ⟨_, e'⟩
      · exact absurd e' ne
      · exact ⟨j, b, ds, e, e'⟩
  have free : ∀ q, FreeAt (σ.set i (some (.ref a))) (η.set i (some (.exc nm d))) q → FreeAt σ η q := fun q ⟨j, ds, e1, e2⟩ => by
    rcases set_get e1 with ⟨_, e⟩ | ⟨ne, e⟩
    · cases e
    · rcases set_get e2 with ⟨e', _⟩ | ⟨_, e'⟩
      · exact absurd e' ne
      · exact ⟨j, ds, e, e'⟩
  have kA : ∀ q, Avd (σ.set i (some (.ref a))) (η.set i (some (.exc nm d))) T q → Avd σ η T q := fun q z => z.imp id (own q)
  refine ⟨⟨fun j d' h' => ?_, fun j b' ds' h' => ?_, fun j nm' d' h' => ?_, fun j k b1 b2 d1 d2 a' h1 h2 h3 h4 => ?_, r.tl, by simpa using r.len⟩, ⟨fun _ h => h, fun _ _ h _ => h, fun q z => .inl (own q z), fun q z => .inl (free q z), fun j ds z => ?_⟩⟩
  · rcases set_get h' with ⟨e, e'⟩ | ⟨ne, e⟩
    · cases e'
    · obtain ⟨v', e1, q1⟩ := r.val j d' e
      exact ⟨v', by rw [List.getElem?_set_ne ne]; exact e1, Dq.less kA d' v' q1⟩
  · rcases set_get h' with ⟨e, e'⟩ | ⟨ne, e⟩
    · cases e'
    · obtain ⟨a2, vs2, e1, e2, q1, n1⟩ := r.own j b' ds' e
      exact ⟨a2, vs2, by rw [List.getElem?_set_ne ne]; exact e1, e2, DqAll.less kA ds' vs2 q1, n1⟩
  · rcases set_get h' with ⟨e, e'⟩ | ⟨ne, e⟩
    · cases e'
      subst e
      have hl : i < σ.length := by
        have z := (List.getElem?_eq_some_iff.mp h').1
        have := r.len
        simp at z
        omega
      exact ⟨a, List.getElem?_set_self hl, hx.less kA⟩
    · obtain ⟨a2, e1, q1⟩ := r.exc j nm' d' e
      exact ⟨a2, by rw [List.getElem?_set_ne ne]; exact e1, q1.less kA⟩
  · rcases set_get h1 with ⟨_, e⟩ | ⟨ne, e⟩
    · cases e
    · rcases set_get h2 with ⟨_, e'⟩ | ⟨ne', e'⟩
      · cases e'
      · rw [List.getElem?_set_ne ne] at h3
        rw [List.getElem?_set_ne ne'] at h4
        exact r.inj j k b1 b2 d1 d2 a' e e' h3 h4
  · rcases set_get z with ⟨_, e⟩ | ⟨ne, e⟩
    · cases e
    · exact ⟨⟨ds, e⟩, List.getElem?_set_ne ne⟩
theorem StepS.wipe1 {i : Nat} : StepS σ H η (σ.set i none) H (η.set i none) := by
  have own : ∀ q, OwnAt (σ.set i none) (η.set i none) q → OwnAt σ η q := fun q ⟨j, b, ds, e1, e2⟩ => by
    rcases set_get e1 with ⟨_, e⟩ | ⟨_, e⟩
    · cases e
    · rcases set_get e2 with ⟨_, e'⟩ | ⟨_, e'⟩
      · cases e'
      · exact ⟨j, b, ds, e, e'⟩
  refine ⟨fun _ h => h, fun _ _ h _ => h, fun q z => .inl (own q z), fun q ⟨j, ds, e1, e2⟩ => .inl ?_, fun j ds z => ?_⟩
  · rcases set_get e1 with ⟨_, e⟩ | ⟨_, e⟩
    · cases e
    · rcases set_get e2 with ⟨_, e'⟩ | ⟨_, e'⟩
      · cases e'
      · exact ⟨j, ds, e, e'⟩
  · rcases set_get z with ⟨_, e⟩ | ⟨ne, e⟩
    · cases e
    · exact ⟨⟨ds, e⟩, List.getElem?_set_ne ne⟩
end
/-- try: .. except c as n: y = n; i the slot of n, j of y -/
def mTry (names : List Str) (i j : Nat) (mb : MX Fl) : MX Fl := fun η => match mb η with
  | some (.ok fl, η1) => some (.ok fl, η1)
  | some (.exc nm d, η1) => if names.contains nm = true ∧ i < η1.length then some (.ok .nx, (η1.set j (some (.exc nm d))).set i none) else none
  | none => none
theorem set_two {α : Type} {l : List α} {i j : Nat} {u v w : α} (h : i ≠ j) : ((l.set i u).set j v).set i w = (l.set j v).set i w := by
  rw [List.set_comm _ _ h, List.set_set]
section
variable {X : Cx} {Wout : WX} {x n y : Str} {c : Value} {i j : Nat} {body : List Stmt} {np py pn pos pos' pos2 : Pos} {mb : MX Fl}
theorem ds_try (hex : X.ex = []) (hs : X.stack = X.env :: X.outer) (hf : X.env.frame = some X.env.locals) (hN : X.N.Nodup) (hi : X.N[i]? = some n) (hln : X.env.kindOf n = some .local) (hc : Names X x c) (tk : Takes X Wout)
    (hj : X.N[j]? = some y) (hy : X.env.scope.names.lookup y = some .local) (hij : i ≠ j) (names : List Str) (hnm : ∀ nm ∈ names, ∀ C, X.mg nm = some (.ref C) → PySem.W.exmOne X.K (.ref C) c = some true)
    (hb : ∀ (W : WX) (pn : List (Addr × Obj)) (xe : Value → Shared → Prop), Takes (X.tr pn xe) W → PassesOwn (model X.prog X.w) X.A X.env xe → DSs (X.tr pn xe) W body mb)
    (pv : ∀ (a : Addr) (l : List (Addr × Obj)), PE (X.suite a l) (.Name n pn) (tVar i))
    (hsw : ∀ (a : Addr) (l : List (Addr × Obj)), swapsWith (.Name n pn) (some (.Name y py)) pos2.line (X.suite a l).env = pure false := by intro _ _; rfl) :
    DS X Wout (.Try body [.ExceptHandler (some (.Name x np)) (some n) [.Assign [.Name y py] (.Name n pn) pos2] pos'] [] [] pos) (mTry names i j mb) := by
  refine PS.imp (ps_try_keep (tb := fun W => tSt X.K X.mg W mb) (ts := fun _ _ _ => tAsg (tVar i) (gName j)) (Wout := Wout) hex hs hf hN hi hln hc tk (fun W pn xe t p => hb W pn xe t p)
    (fun a oe cls d l hz hd => pss_one (ps_set (X := X.suite a ((a, oe) :: l)) hN hj (.inl hy) (pv a _) (hsw a _) (.inr hy)))) fun D σ H ⟨η, T, r0, o, η', eo, p⟩ => ?_
  unfold mTry at eo
  split at eo
  · rename_i fl η1 e1
    cases eo
    exact ⟨η, T, r0, .ok fl, η', e1, p⟩
  · rename_i nm d η1 e1
    split at eo
    · rename_i hin
      cases eo
      refine ⟨η, T, r0, .exc nm d, η1, e1, fun cls dd σ' H' s r q => ?_⟩
      obtain ⟨C, dd', v, h1, h2, h3, h4, h5⟩ := q
      subst h2 h3
      refine ⟨true, hnm nm (by simpa using hin.1) C h1, fun _ a ha => ?_, fun z => by cases z⟩
      have kM : More H' (upd H' a (.ext (φE (.ref C) (some dd') a))) := More.upd ha
      have r1 := r.more kM
      have xA : ExAt X.K X.mg (upd H' a (.ext (φE (.ref C) (some dd') a))) (Avd σ' η1 T) a nm d :=
        ⟨C, dd', v, h1, ⟨_, fun h z => z, upd_same⟩, by rw [upd_ne (fun z => by rw [z, ha] at h4; cases h4)]; exact h4, h5.more r.lists kM⟩
      obtain ⟨r2, s2⟩ := r1.storeX (i := j) xA
      have r3 := r2.wipe1 (i := i)
      have fin := p _ _ (((s.trans (StepS.more kM)).trans s2).trans (StepS.wipe1 (i := i))) r3
      have hl : i < σ'.length := Nat.lt_of_lt_of_le hin.2 r.len
      refine ⟨.ref a, by rw [List.getElem?_set_self hl], ?_⟩
      show D.nx (((σ'.set i (some (.ref a))).set j (some (.ref a))).set i none) _
      rw [set_two hij]
      exact fin
    · cases eo
  · cases eo
end
/-- what is told of an error that is kept -/
def rIsX (K : Fg) : List V → Hp → VK → Prop := fun xs H Q => ∃ (a D dd C : Addr) (fs : List (Str × V)) (φ : Heap → Prop) (b : Bool), xs = [.ref a, .ref C] ∧ H a = some (.ext φ) ∧ (∀ h, φ h → ∃ oe vs, h.get? a = some oe ∧ Zc (.ref D) (some dd) oe ∧ oe.data = .fields vs) ∧ H dd = some (.xd fs) ∧ ExcC K D ∧ PySem.W.kitOne K (.ref D) (.ref C) = some b ∧ Q (.bl b) H
theorem call_isX {X : Cx} : CallR X (.builtin "isinstance") (rIsX X.K) := by
  intro pins s σ H xs us Q I r h
  obtain ⟨a, D, dd, C, fs, φ, b, rfl, ea, hφ, ed, EC, e, q⟩ := h
  cases r with
  | cons rx rr =>
    cases rr with
    | cons rt rr =>
      cases rr
      cases rx
      cases rt
      obtain ⟨p1, _, _⟩ := I.hok a _ ea
      obtain ⟨oe, vs, he, hz, hd⟩ := hφ _ p1
      obtain ⟨mA, hns, hr⟩ := (show ObjOk X.prog X.w H s.heap dd (.xd fs) from I.hok dd _ ed)
      obtain ⟨od, ho, hl⟩ := lookIn_ns hns
      have J : PySem.W.InstAt s.heap a oe D (some od) := ⟨he, hz.1, by unfold PySem.W.notCls; rw [hd] <;> rfl, by rw [hz.2]; exact ho⟩
      exact PySem.W.kia_one (PySem.W.kitx_excO EC.hg EC.hk EC.hs EC.hd EC.ha EC.hn EC.ht EC.hm) I.kIn J e (fun z => nomatch z) fun tk => ⟨.bl b, H, I.kept (t' := tk) fun _ _ z => z, rfl, q⟩
def mIsX (x : Str) (j : Nat) : MX PyData := fun η => match η[j]? with
  | some (some (.exc nm _)) => if nm = x then some (.ok (.bool true), η) else none
  | some (some (.val .none)) => some (.ok (.bool false), η)
  | _ => none
def mValX (names : List Str) (j : Nat) : MX PyData := fun η => match η[j]? with
  | some (some (.exc nm d)) => if names.contains nm = true then some (.ok d, η) else none
  | _ => none
section
variable {X : Cx} {W : WX} {x y : Str} {j : Nat} {p p1 p2 pos : Pos} {C : Addr} {e : Expr}
theorem de_isX (hm : X.mg "isinstance" = none) (gC : X.mg x = some (.ref C)) (EC : ExcC X.K C) (hn : PySem.W.kitOne X.K (.type "NoneType") (.ref C) = some false) (hv : PE X (.Name y p1) (tVar j)) (gl : Gl X "isinstance" := by rfl) (gl2 : Gl X x := by rfl) (hd2 : (x == ("__debug__" : Str)) = false := by decide)
    (hvb : bootBuiltins "isinstance" = some (.builtin "isinstance") := by rfl) (hs2 : starEach [.Name x p2] X.env = (false, eval (.Name x p2) X.env) :: starEach [] X.env := by rfl)
    (hs : starEach [.Name y p1, .Name x p2] X.env = (false, eval (.Name y p1) X.env) :: starEach [.Name x p2] X.env := by rfl) (hpl : (backTo pos (starEach [.Name x p2] X.env)).any (·.1) = false := by rfl) : DE X W (.Call (.Name "isinstance" p) [.Name y p1, .Name x p2] [] pos) (mIsX x j) := by
  have hx : PE X (.Name x p2) (tC (.ref C)) := pe_glob gl2 gC rfl hd2
  refine PE.imp (pe_callB (CallR.or call_isi call_isX) gl hm hvb (pa_cons hv (pa_cons hx pa_nil hs2) hs) (by decide) (by decide) hs hpl) fun σ H Q ⟨η, T', r0, o, η', eo, pz⟩ => ?_
  unfold mIsX at eo
  split at eo
  · rename_i nm d hη
    split at eo
    · rename_i hnx
      cases eo
      subst hnx
      obtain ⟨a, ea, C', dd, v, h1, ⟨φ, hφ, h2⟩, h3, h4⟩ := r0.exc j nm d hη
      rw [gC] at h1; cases h1
      exact ⟨.ref a, ea, .inr ⟨a, C, dd, C, _, φ, true, rfl, h2, hφ, h3, EC, if_pos (beq_self_eq_true _), pz _ H StepS.refl r0 (.bl true)⟩⟩
    · cases eo
  · rename_i hη
    cases eo
    obtain ⟨v, ev, qv⟩ := r0.val j _ hη
    cases qv
    exact ⟨.non, ev, .inl ⟨.non, .ref C, .type "NoneType", .ref C, false, rfl, .own C, .base .non, hn, pz _ H StepS.refl r0 (.bl false)⟩⟩
  · cases eo
theorem de_valX (names : List Str) (hX : ∀ nm ∈ names, ∀ C, X.mg nm = some (.ref C) → XfC X.K C ∧ PySem.W.findIn X.K (.ref C) "value" = some none) (hv : PE X e (tVar j)) (hb : attributeBase e "value" X.env (eval e X.env) = eval e X.env := by rfl) : DE X W (.Attribute e "value" pos) (mValX names j) := by
  refine ⟨fun pins s σ H Q I h => ?_⟩
  obtain ⟨η, T', r0, o, η', eo, pz⟩ := h
  unfold mValX at eo
  split at eo
  · rename_i nm d hη
    split at eo
    · rename_i hin
      cases eo
      obtain ⟨a, ea, C, dd, v, h1, ⟨φ, hφ, h2⟩, h3, h4⟩ := r0.exc j nm d hη
      obtain ⟨T, hno⟩ := hX nm (by simpa using hin) C h1
      refine attr_of hb (thn (hv.run pins s σ H (fun x H1 => x = .ref a ∧ H1 = H) I ⟨.ref a, ea, rfl, rfl⟩) fun u s1 ⟨x, H1, I1, rx, ex, eH⟩ => ?_)
      subst ex eH
      obtain rfl : u = Value.ref a := rx
      obtain ⟨p1, _, _⟩ := I1.hok a _ h2
      obtain ⟨oe, vs, he, hz, hd⟩ := hφ _ p1
      obtain ⟨mA, hns, hr⟩ := (show ObjOk X.prog X.w H1 s1.heap dd (.xd [(("value" : Str), v)]) from I1.hok dd _ h3)
      obtain ⟨od, ho, hl⟩ := lookIn_ns hns
      have l : List.lookup ("value" : Str) [(("value" : Str), v)] = some v := by simp [List.lookup]
      obtain ⟨u, hu, ru⟩ := RelO.some_of (v := v) (o := mA "value") (by rw [← l]; exact hr "value")
      have J : PySem.W.InstAt s1.heap a oe C (some od) := ⟨he, hz.1, by unfold PySem.W.notCls; rw [hd] <;> rfl, by rw [hz.2]; exact ho⟩
      exact HandSPX.exc_get I1.kIn J T.ga T.gg T.exC (PySem.W.findObj_own T.hdC hno rfl (by rw [hl, hu])) (handed_of ru) ⟨v, H1, I1.tok _, ru, pz v H1 StepS.refl r0 h4⟩
    · cases eo
  · cases eo
end
end L2.DL
end
section
set_option Elab.async false
set_option linter.all false
set_option maxRecDepth 100000
namespace L2.DL
open PySem PySem.Spec PyProof.Rows
set_option autoImplicit false
section
variable {K : Fg}
theorem OpG.toB {r : R2} {g : PyData → PyData → Option PyData} (h : OpG K r g) (n1 : ∀ ds e, g (.list ds) e = none) (n2 : ∀ d ds, g d (.list ds) = none) : OpB K r g := by
  intro x y d e z H O Q l qx qy hg k
  exact h x y d e z H O Q l (qx.dq fun ds z => by rw [z, n1] at hg; cases hg) (qy.dq fun ds z => by rw [z, n2] at hg; cases hg) hg k
theorem ii1 {f : Int → Int → Option PyData} : ∀ ds e, iiD f (.list ds) e = none := fun ds e => by cases e <;> rfl
theorem ii2 {f : Int → Int → Option PyData} : ∀ d ds, iiD f d (.list ds) = none := fun d ds => by cases d <;> rfl
theorem ltB_ok : OpB K (rI0 fun i j => .bl (decide (i < j))) ltD := ltD_ok.toB ii1 ii2
theorem leB_ok : OpB K (rI0 fun i j => .bl (decide (i ≤ j))) leD := leD_ok.toB ii1 ii2
theorem gtB_ok : OpB K (rI0 fun i j => .bl (decide (j < i))) gtD := gtD_ok.toB ii1 ii2
theorem geB_ok : OpB K (rI0 fun i j => .bl (decide (j ≤ i))) geD := geD_ok.toB ii1 ii2
theorem isB_of {H : Hp} {O : Addr → Prop} {v : V} {d : PyData} (q : Bq K H O v d) : decide (v = .non) = isNoneD d := by
  rcases q with q | ⟨a, vs, ds, rfl, rfl, _, _⟩
  · exact isN_of q
  · exact decide_eq_false (fun z => by cases z)
theorem isB_ok : OpB K (fun x y H Q => y = .non ∧ Q (.bl (decide (x = .non))) H) isD := by
  intro x y d e z H O Q l qx qy hg k
  cases e <;> simp only [isD] at hg <;> cases hg
  have q2 := qy.dq (fun _ z => by cases z)
  cases q2
  exact ⟨rfl, by rw [isB_of qx]; exact k _ _ More.refl (.bl _)⟩
theorem isnB_ok : OpB K (fun x y H Q => y = .non ∧ Q (.bl (!decide (x = .non))) H) isnD := by
  intro x y d e z H O Q l qx qy hg k
  cases e <;> simp only [isnD] at hg <;> cases hg
  have q2 := qy.dq (fun _ z => by cases z)
  cases q2
  exact ⟨rfl, by rw [isB_of qx]; exact k _ _ More.refl (.bl _)⟩
end
section
variable {X : Cx} {W : WX} {a b c e : Expr} {ma mb mc m : MX PyData} {pos p : Pos} {i : Nat}
theorem opB_imp {r : R2} {g : PyData → PyData → Option PyData} (hg : OpB X.K r g) : ∀ σ H Q, tD X.K X.mg W (mOp g ma mb) σ H Q → tOp r (tD X.K X.mg W ma) (tBo X.K X.mg W mb) σ H Q := fun σ H Q ⟨η, T, r0, n0⟩ => ⟨η, T, r0, n0.bind fun x η1 e1 n1 v H1 s1 r1 q1 => by
  refine ⟨η1, T, r1, (n1.later PD.later s1).bind fun y η2 e2 n2 w H2 s2 r2 q2 => ?_⟩
  obtain ⟨z, ez, p⟩ := n2.lift
  exact hg v w x y z H2 (Avd σ η2 T) Q r2.lists (.inl (r1.old s2 q1)) q2 ez (p.meet s2 r2)⟩
theorem opV_imp {r : R2} {g : PyData → PyData → Option PyData} (hg : OpB X.K r g) : ∀ σ H Q, tD X.K X.mg W (mOpV g i mb) σ H Q → tOp r (tVar i) (tBo X.K X.mg W mb) σ H Q := fun σ H Q ⟨η, T, r0, n0⟩ => by
  obtain ⟨v, d, ev, q, n1⟩ := n0.again r0
  refine ⟨v, ev, η, T, r0, n1.bind fun y η2 e2 n2 w H2 s2 r2 q2 => ?_⟩
  obtain ⟨v', d', ev', q', n3⟩ := n2.again r2
  rw [ev] at ev'; cases ev'
  obtain ⟨z, ez, p⟩ := n3.lift
  exact hg v w d' y z H2 (Avd σ η2 T) Q r2.lists q' q2 ez (p.meet s2 r2)
theorem chain_imp {r r' : R2} {g g' : PyData → PyData → Option PyData} (hg : OpG X.K r g) (hg' : OpG X.K r' g') : ∀ σ H Q, tD X.K X.mg W (mChain g g' ma mb mc) σ H Q → tChain r r' (tD X.K X.mg W ma) (tD X.K X.mg W mb) (tD X.K X.mg W mc) σ H Q := fun σ H Q ⟨η, T, r0, n0⟩ => by
  refine ⟨η, T, r0, n0.bind fun x η1 e1 n1 v H1 s1 r1 q1 => ?_⟩
  refine ⟨η1, T, r1, (n1.later PD.later s1).bind fun y η2 e2 n2 w H2 s2 r2 q2 => ?_⟩
  have n3 := n2.later PD.later s2
  have q1' := r1.old s2 q1
  cases ez : g x y with
  | none =>
    obtain ⟨_, _, eo, _⟩ := n3
    unfold mBind mLift at eo
    rw [ez] at eo; cases eo
  | some z =>
    refine hg v w x y z H2 (Avd σ η2 T) _ r2.lists q1' q2 ez fun u H3 k3 qz => ?_
    have n4 : Nx X.K X.mg W (PD X.K X.mg) σ H2 η2 T Q ((fun z => match z with
      | .bool true => mBind mc fun w => mLift (g' y w)
      | .bool false => mPure (.bool false)
      | _ => fun _ => none : PyData → MX PyData) z η2) := by
      unfold mBind at n3
      unfold mLift at n3
      rw [ez] at n3
      exact n3
    have s3 : StepS σ H2 η2 σ H3 η2 := StepS.more k3
    cases qz with
    | bl kb =>
      refine ⟨kb, rfl, ?_⟩
      cases kb with
      | true =>
        rw [if_pos rfl]
        refine ⟨η2, T, r2.more k3, (Nx.later PD.later s3 n4).bind fun u' η4 e4 n5 w' H4 s4 r4 q4 => ?_⟩
        obtain ⟨z', ez', p⟩ := n5.lift
        have rm := r2.more k3
        exact hg' w w' y u' z' H4 (Avd σ η4 T) Q r4.lists (rm.old s4 (r2.old s3 q2)) q4 ez' (p.meet s4 r4)
      | false =>
        rw [if_neg Bool.false_ne_true]
        exact n4.pure (.bl false) H3 s3 (r2.more k3) (.bl false)
    | _ => obtain ⟨_, _, z, _⟩ := n4; cases z
theorem dt_cmpB {op : CmpOp} {r : R2} {g : PyData → PyData → Option PyData} (ho : OpR X (compareOp op) r) (hg : OpB X.K r g) (ha : DE X W a ma) (hb : DB X W b mb) (hm : behindInMarks op b = false) : DT X W (.Compare a [op] [b] pos) (mTru boolD (mOp g ma mb)) :=
  dt_of_op (r := r) (PT.imp (pt_cmpR ho ha hb hm) (tTest_imp (opB_imp hg)))
theorem dt_cmpV {op : CmpOp} {r : R2} {g : PyData → PyData → Option PyData} (ho : OpR X (compareOp op) r) (hg : OpB X.K r g) (ha : PE X a (tVar i)) (hb : DB X W b mb) (hm : behindInMarks op b = false) : DT X W (.Compare a [op] [b] pos) (mTru boolD (mOpV g i mb)) :=
  dt_of_op (r := r) (PT.imp (pt_cmpR ho ha hb hm) (tTest_imp (opV_imp hg)))
theorem dt_chain {op op' : CmpOp} {r r' : R2} {g g' : PyData → PyData → Option PyData} (ho : OpR X (compareOp op) r) (hg : OpG X.K r g) (ho' : OpR X (compareOp op') r') (hg' : OpG X.K r' g') (ha : DE X W a ma) (hb : DE X W b mb) (hc : DE X W c mc)
    (hm : lastMarks [op, op'] [b, c] = false := by with_unfolding_all rfl) : DT X W (.Compare a [op, op'] [b, c] pos) (mTru boolD (mChain g g' ma mb mc)) :=
  dt_of_op (r := r) (PT.imp (pt_chain ho ho' ha hb hc hm) (tTest_imp (chain_imp hg hg')))
end
section
variable {X : Cx}
theorem op_eqK {k : Nat} (gd : Gd X k) : OpR X (compareOp .Eq) (rEqD X.K) := op_eqD (by have := gd.room.un; omega)
theorem op_neK {k : Nat} (gd : Gd X k) : OpR X (compareOp .NotEq) (rNeD X.K) := op_neD (by have := gd.room.un; omega)
theorem op_inK {k : Nat} (gd : Gd X k) : OpR X (compareOp .In) (fun x y H Q => rInD X.K x y H Q ∨ rIn X.K false x y H Q) := OpR.or (op_inD (by have := gd.room.un; omega)) op_in_seq
theorem op_ninK {k : Nat} (gd : Gd X k) : OpR X (compareOp .NotIn) (fun x y H Q => rNotInD X.K x y H Q ∨ rIn X.K true x y H Q) := OpR.or (op_notInD (by have := gd.room.un; omega)) op_notIn_seq
theorem Gd.mono {j k : Nat} (g : Gd X k) (h : j ≤ k) : Gd X j := ⟨g.room.mono h, g.gd⟩
theorem Gd.tr {k : Nat} (g : Gd X k) (pn : List (Addr × Obj)) (xe : Value → Shared → Prop) : Gd (X.tr pn xe) k := ⟨g.room, g.gd⟩
theorem Gd.blk {k : Nat} (g : Gd X k) (s : Shared) (H : Hp) (sc : Scope) (ce : Env) (fp : List Addr) : Gd (X.blk s H sc ce fp) k := ⟨g.room, g.gd⟩
end
end L2.DL
end
section
set_option Elab.async false
set_option linter.all false
set_option maxRecDepth 100000
namespace L2.DL
open PySem PySem.Spec PyProof.Rows
set_option autoImplicit false
/-- a def's promise and how it is called -/
structure CalT (P : Program) (w : World) (K : PySem.W.Frag) (mg : Str → Option Value) (base : Heap) (k : Nat) (x : Str) (n : Nat) (F : FS) : Prop where
  ex : ∃ (f : Addr) (fd : FuncData) (ps : List Str), ps.length = n ∧ FnG P w K mg base (L2.CX P w) k f fd ps (spG K mg n F) ∧ mg x = some (.ref f) ∧ PySem.W.keepIn K (.ref f) = true ∧ Binds K fd ps []
structure CalKT (P : Program) (w : World) (K : PySem.W.Frag) (mg : Str → Option Value) (base : Heap) (k : Nat) (x : Str) (n : Nat) (F : FS) (nu : Nat) (ks : List Str) (pick : List Nat) : Prop where
  ex : ∃ (f : Addr) (fd : FuncData) (ps : List Str), ps.length = n ∧ FnG P w K mg base (L2.CX P w) k f fd ps (spG K mg n F) ∧ mg x = some (.ref f) ∧ PySem.W.keepIn K (.ref f) = true ∧ KwB fd ps nu ks pick
theorem FnG.never {P : Program} {w : World} {K : PySem.W.Frag} {mg : Str → Option Value} {base : Heap} {k : Nat} {f : Addr} {fd : FuncData} {ps : List Str} : FnG P w K mg base (L2.CX P w) k f fd ps (spG K mg ps.length (fun _ => none)) :=
  ⟨fun vs H Q E h => h.1, fun A outer s H args us vs Q E hr hg e0 hb r h => by
    obtain ⟨_, _, _, _, _, _, z, _⟩ := h
    cases z⟩
theorem pick_len {α : Type} {z : α} {pick : List Nat} {l : List α} : (pickL z pick l).length = pick.length := by simp [pickL]
theorem lenK {pick : List Nat} {ml mk : MX (List PyData)} {η : EnvD} {xs : List PyData} {η1 : EnvD} (h : mArgsK pick ml mk η = some (.ok xs, η1)) : xs.length = pick.length := by
  unfold mArgsK mBind at h
  split at h
  · rename_i x η2 e2
    simp only at h
    split at h
    · cases h
      exact pick_len
    · cases h
    · cases h
  · cases h
  · cases h
end L2.DL
namespace L2.DL
open PySem PySem.Spec PyProof.Rows
set_option autoImplicit false
/-- the law's own promise -/
def spLawTop : Sp := fun vs H Q _ => ∃ (a : Addr) (ns : List Int), vs = [V.ref a] ∧ Rd H a (.lst (ns.map V.int)) ∧ ns.length ≤ 63 ∧ ∀ H', Q (.bl true) H'
theorem top_imp {K : Fg} {mg : Str → Option Value} {F : FS} (hm : ∀ ns : List Int, ns.length ≤ 63 → fnV F [.list (ns.map .int)] = some (.ok (.d (.bool true)))) : ∀ vs H Q E, spLawTop vs H Q E → spG K mg 1 F vs H Q E := by
  rintro vs H Q E ⟨a, ns, rfl, hS, hl, q⟩
  have e := hm ns hl
  unfold fnV at e
  obtain ⟨o, eo, e2⟩ := Option.map_eq_some_iff.mp e
  obtain ⟨r, η⟩ := o
  cases e2
  have l : Lists H (fun _ => False) := fun _ z => z.elim
  refine ⟨rfl, valsE [.list (ns.map .int)], fun _ => False, Rp.args l (.cons (.lst (fun z => z) hS (ints_dq ns)) .nil), .ok (.d (.bool true)), η, eo, fun v H' s r q' => ?_⟩
  cases q'
  exact q H'
theorem cx_no {P : Program} {w : World} {outer : List Env} {H : Hp} {s : Shared} {e : Value} {s' : Shared} (h : L2.CX P w outer H s (fun _ _ _ => False) e s') : False := by
  obtain ⟨_, _, _, _, _, _, _, _, _, _, _, _, z⟩ := h
  exact z
end L2.DL
end
section
set_option Elab.async false
set_option linter.all false
set_option maxRecDepth 100000
set_option maxHeartbeats 4000000
namespace G44
open PySem PySem.Spec PyProof.Rows L2 L2.DL
set_option autoImplicit false
def top (i : Nat) : Stmt := PySem.Challenge.pw_cutswhole_k44_fewest_coins.main.body.getD i (.Pass ⟨0, 0, 0, 0⟩)
abbrev NM : List Str := ["InvalidCoins"]
abbrev st__law_well : Stmt := top 19
abbrev N__law_well : List Str := ["script", "k", "cell", "whole", "part", "mixed"]
theorem sc__law_well : FnScope N__law_well ["script", "k"] (defScope st__law_well) := ⟨rfl, rfl, rfl, by decide +kernel, rfl, by decide +kernel, by decide +kernel⟩
noncomputable def m__law_well : MX Fl :=
    (mSeq (mAsg (mIf (mTru boolD (mOp ltD (mVar 1) (mUn lenD (mVar 0)))) (mUn intD (mOp ixD (mVar 0) (mVar 1))) (mOp addD (mOp mulD (mPure (.int 83)) (mVar 1)) (mPure (.int 41)))) (gV 2))
    (mSeq (mAsg (mOp addD (mPure (.int 47)) (mUn lenD (mVar 0))) (gV 3))
    (mSeq (mFor (mIter (mSl slD (mVar 0) (mPure none) (mPart (mPure (.int 63))))) (gV 4) (mAsg (mOp modD (mUn intD (mOp addD (mOp mulD (mVar 3) (mPure (.int 4871))) (mOp modD (mUn intD (mVar 4)) (mOp addD (mOp powD (mPure (.int 10)) (mPure (.int 19))) (mPure (.int 51)))))) (mOp addD (mOp powD (mPure (.int 10)) (mPure (.int 25))) (mPure (.int 13)))) (gV 3)) [])
    (mSeq (mAsg (mOp modD (mUn intD (mOp addD (mOp addD (mOp addD (mOp mulD (mUn absD (mVar 2)) (mPure (.int 6599))) (mOp mulD (mVar 3) (mPure (.int 37)))) (mOp mulD (mPure (.int 5)) (mUn intD (mOp ltD (mVar 2) (mPure (.int 0)))))) (mOp mulD (mPure (.int 71)) (mVar 1)))) (mOp addD (mOp powD (mPure (.int 10)) (mPure (.int 28))) (mPure (.int 331)))) (gV 5))
    (mRetL (mCaL (fun xs => if xs.length ≤ sizeLine then some xs else none) (mCons (mCa max2D (mCons (mPure (.int 0)) (mCons (mOp subD (mUn absD (mVar 2)) (mOp powD (mPure (.int 10)) (mPure (.int 18)))) mNil))) (mCons (mVar 5) (mCons (mPure (.int 0)) mNil)))))))))
noncomputable def F__law_well : FS := runF 6 2 m__law_well
abbrev st__law_draw : Stmt := top 20
abbrev N__law_draw : List Str := ["well", "many", "step", "mixed", "found"]
theorem sc__law_draw : FnScope N__law_draw ["well", "many"] (defScope st__law_draw) := ⟨rfl, rfl, rfl, by decide +kernel, rfl, by decide +kernel, by decide +kernel⟩
noncomputable def m__law_draw : MX Fl :=
    (mSeq (mIfS (mTru boolD (mOp gtD (mOpV ixD 0 (mPure (.int 0))) (mPure (.int 0)))) (mSeq (mAsg (mOp modD (mUn intD (mOpV ixD 0 (mPure (.int 0)))) (mVar 1)) (gV 4))
    (mSeq (mSetIx 0 (mOp fdivD (mOpV ixD 0 (mPure (.int 0))) (mVar 1)) (mPure (.int 0)))
    (mRetV 4))) (mPure .nx))
    (mSeq (mSetIx 0 (mOp addD (mOpV ixD 0 (mPure (.int 2))) (mPure (.int 1))) (mPure (.int 2)))
    (mSeq (mAsg (mOpV ixD 0 (mPure (.int 2))) (gV 2))
    (mSeq (mAsg (mOp modD (mUn intD (mOp addD (mOp addD (mOp mulD (mOp mulD (mOp addD (mOpV ixD 0 (mPure (.int 1))) (mPure (.int 37))) (mOp addD (mVar 2) (mPure (.int 7)))) (mPure (.int 998244353))) (mOp mulD (mOp mulD (mOp mulD (mVar 2) (mVar 2)) (mVar 2)) (mPure (.int 424242427)))) (mPure (.int 91)))) (mOp addD (mOp powD (mPure (.int 10)) (mPure (.int 29))) (mPure (.int 319)))) (gV 3))
    (mSeq (mAsg (mOp modD (mUn intD (mOp addD (mOp addD (mOp mulD (mVar 3) (mVar 3)) (mOp mulD (mOpV ixD 0 (mPure (.int 1))) (mPure (.int 5)))) (mVar 2))) (mOp addD (mOp powD (mPure (.int 10)) (mPure (.int 31))) (mPure (.int 33)))) (gV 3))
    (mSeq (mAsg (mOp modD (mUn intD (mOp addD (mOp mulD (mOp mulD (mVar 3) (mVar 3)) (mPure (.int 3))) (mOp mulD (mVar 3) (mPure (.int 13))))) (mOp addD (mOp powD (mPure (.int 10)) (mPure (.int 33))) (mPure (.int 603)))) (gV 3))
    (mRet (mOp modD (mUn intD (mOp fdivD (mVar 3) (mPure (.int 50021)))) (mVar 1)))))))))
noncomputable def F__law_draw : FS := runF 5 2 m__law_draw
abbrev st__law_coins : Stmt := top 21
abbrev N__law_coins : List Str := ["well", "most", "turn"]
theorem sc__law_coins : FnScope N__law_coins ["well"] (defScope st__law_coins) := ⟨rfl, rfl, rfl, by decide +kernel, rfl, by decide +kernel, by decide +kernel⟩
noncomputable def m__law_coins : MX Fl :=
    (mSeq (mAsg (mOp ixD (mFz (mCaL (fun xs => if xs.length ≤ sizeLine then some xs else none) (mCons (mPure (.int 9)) (mCons (mPure (.int 20)) (mCons (mPure (.int 60)) mNil))))) (mCallI F__law_draw 0 (mCons (mPure (.int 3)) mNil))) (gV 1))
    (mRet (mUn tupD (mFz (mUnL sortedSetD (mFz (mComp (gIt rangeD (mCons (mOp addD (mPure (.int 1)) (mCallI F__law_draw 0 (mCons (mPure (.int 5)) mNil))) mNil)) (gV 2) (mPure true) (mOp addD (mPure (.int 1)) (mCallI F__law_draw 0 (mCons (mVar 1) mNil))) [2])))))))
noncomputable def F__law_coins : FS := runF 3 1 m__law_coins
abbrev st__law_fewest : Stmt := top 23
abbrev N__law_fewest : List Str := ["coins", "n", "found", "number", "ways", "coin", "way"]
theorem sc__law_fewest : FnScope N__law_fewest ["coins", "n"] (defScope st__law_fewest) := ⟨rfl, rfl, rfl, by decide +kernel, rfl, by decide +kernel, by decide +kernel⟩
noncomputable def m__law_fewest : MX Fl :=
    (mSeq (mAsgL (mCaL (fun xs => if xs.length ≤ sizeLine then some xs else none) (mCons (mPure (.int 0)) mNil)) 2)
    (mSeq (mFor (gIt rangeD (mCons (mPure (.int 1)) (mCons (mOp addD (mVar 1) (mPure (.int 1))) mNil))) (gV 3) (mSeq (mAsgL (mComp (mIter (mVar 0)) (gV 5) (mTru boolD (mOp leD (mVar 5) (mVar 3))) (mOpV ixD 2 (mOp subD (mVar 3) (mVar 5))) [5]) 4)
    (mSeq (mAsgL (mComp (mIter (mVar 4)) (gV 6) (mTru boolD (mOp isnD (mVar 6) (mPure .none))) (mVar 6) [6]) 4)
    (mDrop (mMeth appendD 2 (mCons (mIf (mTru boolD (mOpV neD 4 (mFz (mCaL (fun xs => if xs.length ≤ sizeLine then some xs else none) mNil)))) (mOp addD (mPure (.int 1)) (mUn minLD (mBor 4))) (mPure .none)) mNil))))) [])
    (mRetV 2)))
noncomputable def F__law_fewest : FS := runF 7 2 m__law_fewest
abbrev st_is_integer : Stmt := top 4
abbrev N_is_integer : List Str := ["value"]
theorem sc_is_integer : FnScope N_is_integer ["value"] (defScope st_is_integer) := ⟨rfl, rfl, rfl, by decide +kernel, rfl, by decide +kernel, by decide +kernel⟩
noncomputable def m_is_integer : MX Fl :=
    (mRet (mAndV (mUn (isiD "int") (mVar 0)) (mNotV (mUn (isiD "bool") (mVar 0)))))
noncomputable def F_is_integer : FS := runF 1 1 m_is_integer
abbrev st_is_between : Stmt := top 5
abbrev N_is_between : List Str := ["value", "low", "high"]
theorem sc_is_between : FnScope N_is_between ["value", "low", "high"] (defScope st_is_between) := ⟨rfl, rfl, rfl, by decide +kernel, rfl, by decide +kernel, by decide +kernel⟩
noncomputable def m_is_between : MX Fl :=
    (mRet (mAndV (mCall (fnV F_is_integer) (mCons (mVar 0) mNil)) (mChain leD leD (mVar 1) (mVar 0) (mVar 2))))
noncomputable def F_is_between : FS := runF 3 3 m_is_between
abbrev st_are_coins : Stmt := top 14
abbrev N_are_coins : List Str := ["value", "coin", "one", "other"]
theorem sc_are_coins : FnScope N_are_coins ["value"] (defScope st_are_coins) := ⟨rfl, rfl, rfl, by decide +kernel, rfl, by decide +kernel, by decide +kernel⟩
noncomputable def m_are_coins : MX Fl :=
    (mSeq (mIfS (mOr (mNot (mTru truD (mUn (isiD "tuple") (mVar 0)))) (mNot (mTru boolD (mChain leD leD (mPure (.int 1)) (mUn lenD (mVar 0)) (mPure (.int 5)))))) (mRet (mPure (.bool false))) (mPure .nx))
    (mSeq (mIfS (mNot (mTru truD (mUn allD (mFz (mComp (mIter (mVar 0)) (gV 1) (mPure true) (mCall (fnV F_is_between) (mCons (mVar 1) (mCons (mPure (.int 1)) (mCons (mPure (.int 60)) mNil)))) [1]))))) (mRet (mPure (.bool false))) (mPure .nx))
    (mRet (mUn allD (mFz (mComp (gIt zipD (mCons (mVar 0) (mCons (mSl slD (mVar 0) (mPart (mPure (.int 1))) (mPure none)) mNil))) (gTupD 2 (gConsD (gV 2) (gConsD (gV 3) gNilD))) (mPure true) (mOp ltD (mVar 2) (mVar 3)) [2, 3]))))))
noncomputable def F_are_coins : FS := runF 4 1 m_are_coins
abbrev st_anew : Stmt := top 6
abbrev N_anew : List Str := ["value", "part"]
theorem sc_anew : FnScope N_anew ["value"] (defScope st_anew) := ⟨rfl, rfl, rfl, by decide +kernel, rfl, by decide +kernel, by decide +kernel⟩
noncomputable def m_anew (F_anew_n : FS) : MX Fl :=
    (mSeq (mIfS (mTru truD (mUn (isiD "list") (mVar 0))) (mRetL (mComp (mIter (mVar 0)) (gV 1) (mPure true) (mCall (fnV F_anew_n) (mCons (mVar 1) mNil)) [1])) (mPure .nx))
    (mSeq (mIfS (mTru truD (mUn (isiD "tuple") (mVar 0))) (mRet (mUn tupD (mFz (mComp (mIter (mVar 0)) (gV 1) (mPure true) (mCall (fnV F_anew_n) (mCons (mVar 1) mNil)) [1])))) (mPure .nx))
    (mRetV 0)))
noncomputable def F_anew : Nat → FS
  | 0 => fun _ => none
  | k + 1 => runF 2 1 (m_anew (F_anew k))
abbrev LV : Nat := 3
abbrev st_need_coins : Stmt := top 15
abbrev N_need_coins : List Str := ["coins"]
theorem sc_need_coins : FnScope N_need_coins ["coins"] (defScope st_need_coins) := ⟨rfl, rfl, rfl, by decide +kernel, rfl, by decide +kernel, by decide +kernel⟩
noncomputable def m_need_coins : MX Fl :=
    (mIfS (mNot (mTru truD (mCall (fnV F_are_coins) (mCons (mVar 0) mNil)))) (mRaise "InvalidCoins" (mCall (fnV (F_anew LV)) (mCons (mVar 0) mNil))) (mPure .nx))
noncomputable def F_need_coins : FS := runF 1 1 m_need_coins
abbrev st_fewest_to : Stmt := top 8
abbrev N_fewest_to : List Str := ["coins", "n", "found", "number", "ways", "coin"]
theorem sc_fewest_to : FnScope N_fewest_to ["coins", "n"] (defScope st_fewest_to) := ⟨rfl, rfl, rfl, by decide +kernel, rfl, by decide +kernel, by decide +kernel⟩
noncomputable def m_fewest_to : MX Fl :=
    (mSeq (mAsgL (mOpL catD (mFz (mCaL (fun xs => if xs.length ≤ sizeLine then some xs else none) (mCons (mPure (.int 0)) mNil))) (mOp mulD (mFz (mCaL (fun xs => if xs.length ≤ sizeLine then some xs else none) (mCons (mPure .none) mNil))) (mVar 1))) 2)
    (mSeq (mFor (gIt rangeD (mCons (mPure (.int 1)) (mCons (mOp addD (mVar 1) (mPure (.int 1))) mNil))) (gV 3) (mSeq (mAsgL (mComp (mIter (mVar 0)) (gV 5) (mAnd (mTru boolD (mOp leD (mVar 5) (mVar 3))) (mTru boolD (mOp isnD (mOpV ixD 2 (mOp subD (mVar 3) (mVar 5))) (mPure .none)))) (mOpV ixD 2 (mOp subD (mVar 3) (mVar 5))) [5]) 4)
    (mIfS (mTru boolD (mOpV neD 4 (mFz (mCaL (fun xs => if xs.length ≤ sizeLine then some xs else none) mNil)))) (mSetIx 2 (mOp addD (mPure (.int 1)) (mUn minLD (mBor 4))) (mVar 3)) (mPure .nx))) [])
    (mRetV 2)))
noncomputable def F_fewest_to : FS := runF 6 2 m_fewest_to
abbrev st_round_table : Stmt := top 10
abbrev N_round_table : List Str := ["coins", "step", "rows", "unlike", "start", "n"]
theorem sc_round_table : FnScope N_round_table ["coins"] (defScope st_round_table) := ⟨rfl, rfl, rfl, by decide +kernel, rfl, by decide +kernel, by decide +kernel⟩
noncomputable def m_round_table : MX Fl :=
    (mSeq (mAsg (mOp ixD (mVar 0) (mUn negD (mPure (.int 1)))) (gV 1))
    (mSeq (mAsg (mCall (fnV F_fewest_to) (mCons (mVar 0) (mCons (mOp addD (mOp powD (mOp subD (mVar 1) (mPure (.int 1))) (mPure (.int 2))) (mOp mulD (mPure (.int 2)) (mVar 1))) mNil))) (gV 2))
    (mSeq (mAsgL (mComp (gIt rangeD (mCons (mOp subD (mUn lenD (mVar 2)) (mVar 1)) mNil)) (gV 5) (mTru boolD (mOp neD (mOp ixD (mVar 2) (mOp addD (mVar 5) (mVar 1))) (mOp addD (mOp ixD (mVar 2) (mVar 5)) (mPure (.int 1))))) (mVar 5) [5]) 3)
    (mSeq (mAsg (mIf (mTru boolD (mOpV neD 3 (mFz (mCaL (fun xs => if xs.length ≤ sizeLine then some xs else none) mNil)))) (mOp addD (mOpV ixD 3 (mUn negD (mPure (.int 1)))) (mPure (.int 1))) (mPure (.int 0))) (gV 4))
    (mRet (mCa (fun xs => if xs.length ≤ sizeLine then some (.tuple xs) else none) (mCons (mVar 4) (mCons (mVar 1) (mCons (mPure (.int 1)) (mCons (mUn tupD (mSl slD (mVar 2) (mPure none) (mPart (mOp addD (mVar 4) (mVar 1))))) mNil))))))))))
noncomputable def F_round_table : FS := runF 6 1 m_round_table
abbrev st_fewest_table : Stmt := top 17
abbrev N_fewest_table : List Str := ["coins"]
theorem sc_fewest_table : FnScope N_fewest_table ["coins"] (defScope st_fewest_table) := ⟨rfl, rfl, rfl, by decide +kernel, rfl, by decide +kernel, by decide +kernel⟩
noncomputable def m_fewest_table : MX Fl :=
    (mSeq (mDrop (mCall (fnV F_need_coins) (mCons (mVar 0) mNil)))
    (mSeq (mIfS (mTru boolD (mOp neD (mOp ixD (mVar 0) (mPure (.int 0))) (mPure (.int 1)))) (mRaise "InvalidCoins" (mCall (fnV (F_anew LV)) (mCons (mVar 0) mNil))) (mPure .nx))
    (mRet (mCall (fnV F_round_table) (mCons (mVar 0) mNil)))))
noncomputable def F_fewest_table : FS := runF 1 1 m_fewest_table
abbrev st_least_count : Stmt := top 9
abbrev N_least_count : List Str := ["coins", "n", "greatest", "bound", "times", "rest"]
theorem sc_least_count : FnScope N_least_count ["coins", "n"] (defScope st_least_count) := ⟨rfl, rfl, rfl, by decide +kernel, rfl, by decide +kernel, by decide +kernel⟩
noncomputable def m_least_count : MX Fl :=
    (mSeq (mIfS (mTru boolD (mOp ltD (mVar 1) (mPure (.int 0)))) (mRet (mPure .none)) (mPure .nx))
    (mSeq (mAsg (mOp ixD (mVar 0) (mUn negD (mPure (.int 1)))) (gV 2))
    (mSeq (mAsg (mOp powD (mOp subD (mVar 2) (mPure (.int 1))) (mPure (.int 2))) (gV 3))
    (mSeq (mAsg (mCa max2D (mCons (mPure (.int 0)) (mCons (mUn negD (mOp fdivD (mOp subD (mVar 3) (mVar 1)) (mVar 2))) mNil))) (gV 4))
    (mSeq (mAsg (mOp ixD (mCall (fnV F_fewest_to) (mCons (mVar 0) (mCons (mOp subD (mVar 1) (mOp mulD (mVar 4) (mVar 2))) mNil))) (mUn negD (mPure (.int 1)))) (gV 5))
    (mRet (mIf (mTru boolD (mOp isD (mVar 5) (mPure .none))) (mPure .none) (mOp addD (mVar 5) (mVar 4)))))))))
noncomputable def F_least_count : FS := runF 6 2 m_least_count
abbrev st_fewest : Stmt := top 16
abbrev N_fewest : List Str := ["coins", "n"]
theorem sc_fewest : FnScope N_fewest ["coins", "n"] (defScope st_fewest) := ⟨rfl, rfl, rfl, by decide +kernel, rfl, by decide +kernel, by decide +kernel⟩
noncomputable def m_fewest : MX Fl :=
    (mSeq (mDrop (mCall (fnV F_need_coins) (mCons (mVar 0) mNil)))
    (mRet (mCall (fnV F_least_count) (mCons (mVar 0) (mCons (mVar 1) mNil)))))
noncomputable def F_fewest : FS := runF 2 2 m_fewest
abbrev st__law_refused : Stmt := top 25
abbrev N__law_refused : List Str := ["coins", "caught", "e"]
theorem sc__law_refused : FnScope N__law_refused ["coins"] (defScope st__law_refused) := ⟨rfl, rfl, rfl, by decide +kernel, rfl, by decide +kernel, by decide +kernel⟩
noncomputable def m__law_refused : MX Fl :=
    (mSeq (mAsg (mPure .none) (gV 1))
    (mSeq (mTry NM 2 1 (mDrop (mCall (fnV F_fewest_table) (mCons (mVar 0) mNil))))
    (mRet (mAndV (mIsX "InvalidCoins" 1) (mOp eqD (mUn reprD (mValX NM 1)) (mUn reprD (mVar 0)))))))
noncomputable def F__law_refused : FS := runF 3 1 m__law_refused
abbrev st__law_is_table : Stmt := top 24
abbrev N__law_is_table : List Str := ["told", "coins", "rows", "far", "less", "start", "step", "gain", "values", "n"]
theorem sc__law_is_table : FnScope N__law_is_table ["told", "coins", "rows"] (defScope st__law_is_table) := ⟨rfl, rfl, rfl, by decide +kernel, rfl, by decide +kernel, by decide +kernel⟩
noncomputable def m__law_is_table : MX Fl :=
    (mSeq (mIfS (mOr (mNot (mTru truD (mUn (isiD "tuple") (mVar 0)))) (mOr (mTru boolD (mOp neD (mUn lenD (mVar 0)) (mPure (.int 4)))) (mTru boolD (mOp neD (mOp ixD (mVar 0) (mPure (.int 3))) (mUn tupD (mSl slD (mVar 2) (mPure none) (mPart (mOp addD (mOp ixD (mVar 0) (mPure (.int 0))) (mOp ixD (mVar 0) (mPure (.int 1))))))))))) (mRet (mPure (.bool false))) (mPure .nx))
    (mSeq (mAsg (mVar 0) (gTupD 4 (gConsD (gV 5) (gConsD (gV 6) (gConsD (gV 7) (gConsD (gV 8) gNilD))))))
    (mSeq (mIfS (mOr (mTru boolD (mOp neD (mVar 6) (mOp ixD (mVar 1) (mUn negD (mPure (.int 1)))))) (mTru boolD (mOp neD (mFz (mComp (gIt rangeD (mCons (mVar 5) (mCons (mOp subD (mUn lenD (mVar 2)) (mVar 6)) mNil))) (gV 9) (mTru boolD (mOp neD (mOp ixD (mVar 2) (mOp addD (mVar 9) (mVar 6))) (mOp addD (mOp ixD (mVar 2) (mVar 9)) (mVar 7)))) (mVar 9) [9])) (mFz (mCaL (fun xs => if xs.length ≤ sizeLine then some xs else none) mNil))))) (mRet (mPure (.bool false))) (mPure .nx))
    (mSeq (mIfS (mAnd (mTru boolD (mOp gtD (mVar 5) (mPure (.int 0)))) (mTru boolD (mOp eqD (mOp ixD (mVar 2) (mOp addD (mOp subD (mVar 5) (mPure (.int 1))) (mVar 6))) (mOp addD (mOp ixD (mVar 2) (mOp subD (mVar 5) (mPure (.int 1)))) (mVar 7))))) (mRet (mPure (.bool false))) (mPure .nx))
    (mSeq (mAsg (mOp mulD (mOp subD (mVar 6) (mPure (.int 1))) (mOp subD (mVar 6) (mPure (.int 1)))) (gV 3))
    (mSeq (mFor (gIt rangeD (mCons (mPure (.int 1)) (mCons (mVar 6) mNil))) (gV 4) (mIfS (mTru boolD (mOp eqD (mUn lenSetD (mFz (mComp (gIt rangeD (mCons (mVar 3) (mCons (mOp addD (mVar 3) (mVar 6)) mNil))) (gV 9) (mPure true) (mOp subD (mOp ixD (mVar 2) (mOp addD (mVar 9) (mVar 4))) (mOp ixD (mVar 2) (mVar 9))) [9]))) (mPure (.int 1)))) (mRet (mPure (.bool false))) (mPure .nx)) [])
    (mRet (mPure (.bool true)))))))))
noncomputable def F__law_is_table : FS := runF 10 3 m__law_is_table
abbrev st_law : Stmt := top 26
abbrev N_law : List Str := ["script", "k", "well", "coins", "greatest", "rows", "n", "far", "times", "due", "own", "told"]
theorem sc_law : FnScope N_law ["script"] (defScope st_law) := ⟨rfl, rfl, rfl, by decide +kernel, rfl, by decide +kernel, by decide +kernel⟩
noncomputable def m_law : MX Fl :=
    (mSeq (mFor (gIt rangeD (mCons (mCa max2D (mCons (mPure (.int 1)) (mCons (mCa min2D (mCons (mPure (.int 3)) (mCons (mUn lenD (mVar 0)) mNil))) mNil))) mNil)) (gV 1) (mSeq (mAsgL (mCallL (fnV F__law_well) (mCons (mVar 0) (mCons (mVar 1) mNil))) 2)
    (mSeq (mAsg (mCallI F__law_coins 2 mNil) (gV 3))
    (mSeq (mAsg (mOp ixD (mVar 3) (mUn negD (mPure (.int 1)))) (gV 4))
    (mSeq (mAsg (mCall (fnV F__law_fewest) (mCons (mVar 3) (mCons (mOp addD (mOp mulD (mOp subD (mVar 4) (mPure (.int 1))) (mOp subD (mVar 4) (mPure (.int 1)))) (mOp mulD (mPure (.int 3)) (mVar 4))) mNil))) (gV 5))
    (mSeq (mFor (mIter (mFz (mCaL (fun xs => if xs.length ≤ sizeLine then some xs else none) (mCons (mPure (.int 0)) (mCons (mPure (.int 1)) (mCons (mCallI F__law_draw 2 (mCons (mPure (.int 60)) mNil)) (mCons (mCallI F__law_draw 2 (mCons (mUn lenD (mVar 5)) mNil)) (mCons (mOp subD (mUn lenD (mVar 5)) (mPure (.int 1))) mNil)))))))) (gV 6) (mSeq (mAsg (mIf (mTru boolD (mOp ltD (mVar 6) (mUn lenD (mVar 5)))) (mOp ixD (mVar 5) (mVar 6)) (mOp ixD (mCall (fnV F__law_fewest) (mCons (mVar 3) (mCons (mVar 6) mNil))) (mVar 6))) (gV 9))
    (mIfS (mTru boolD (mOp neD (mUn reprD (mFz (mCaL (fun xs => if xs.length ≤ sizeLine then some xs else none) (mCons (mCall (fnV F_fewest) (mCons (mVar 3) (mCons (mVar 6) mNil))) (mCons (mCall (fnV F_fewest) (mArgsK [1, 0] mNil (mCons (mVar 6) (mCons (mVar 3) mNil)))) mNil))))) (mUn reprD (mFz (mCaL (fun xs => if xs.length ≤ sizeLine then some xs else none) (mCons (mVar 9) (mCons (mVar 9) mNil))))))) (mRet (mPure (.bool false))) (mPure .nx))) [])
    (mSeq (mIfS (mTru boolD (mOp isnD (mCall (fnV F_fewest) (mCons (mVar 3) (mCons (mOp subD (mUn negD (mPure (.int 1))) (mCallI F__law_draw 2 (mCons (mPure (.int 99)) mNil))) mNil))) (mPure .none))) (mRet (mPure (.bool false))) (mPure .nx))
    (mSeq (mAsg (mOp addD (mOp powD (mPure (.int 10)) (mPure (.int 29))) (mCallI F__law_draw 2 (mCons (mOp powD (mPure (.int 10)) (mPure (.int 12))) mNil))) (gV 7))
    (mSeq (mAsg (mOp fdivD (mOp subD (mVar 7) (mOp mulD (mOp subD (mVar 4) (mPure (.int 1))) (mOp subD (mVar 4) (mPure (.int 1))))) (mVar 4)) (gV 8))
    (mSeq (mAsg (mOp ixD (mVar 5) (mOp subD (mVar 7) (mOp mulD (mVar 8) (mVar 4)))) (gV 9))
    (mSeq (mIfS (mTru boolD (mOp neD (mUn reprD (mCall (fnV F_fewest) (mCons (mVar 3) (mCons (mVar 7) mNil)))) (mUn reprD (mIf (mTru boolD (mOp isD (mVar 9) (mPure .none))) (mPure .none) (mOp addD (mVar 9) (mVar 8)))))) (mRet (mPure (.bool false))) (mPure .nx))
    (mSeq (mIfS (mAnd (mTru boolD (mOp gtD (mOp ixD (mVar 3) (mPure (.int 0))) (mPure (.int 1)))) (mNot (mTru truD (mCall (fnV F__law_refused) (mCons (mVar 3) mNil))))) (mRet (mPure (.bool false))) (mPure .nx))
    (mSeq (mAsg (mIf (mTru boolD (mOp eqD (mOp ixD (mVar 3) (mPure (.int 0))) (mPure (.int 1)))) (mVar 3) (mUn tupD (mFz (mUnL sortedD (mOp addD (mCa (fun xs => if xs.length ≤ sizeLine then some (.tuple xs) else none) (mCons (mPure (.int 1)) mNil)) (mSl slD (mVar 3) (mPure none) (mPart (mPure (.int 4))))))))) (gV 10))
    (mSeq (mAsg (mCall (fnV F__law_fewest) (mCons (mVar 10) (mCons (mOp addD (mOp mulD (mOp subD (mOp ixD (mVar 10) (mUn negD (mPure (.int 1)))) (mPure (.int 1))) (mOp subD (mOp ixD (mVar 10) (mUn negD (mPure (.int 1)))) (mPure (.int 1)))) (mOp mulD (mPure (.int 3)) (mOp ixD (mVar 10) (mUn negD (mPure (.int 1)))))) mNil))) (gV 5))
    (mSeq (mAsg (mCall (fnV F_fewest_table) (mCons (mVar 10) mNil)) (gV 11))
    (mIfS (mOr (mTru boolD (mOp neD (mUn reprD (mCall (fnV F_fewest_table) (mArgsK [0] mNil (mCons (mVar 10) mNil)))) (mUn reprD (mVar 11)))) (mNot (mTru truD (mCall (fnV F__law_is_table) (mCons (mVar 11) (mCons (mVar 10) (mCons (mVar 5) mNil))))))) (mRet (mPure (.bool false))) (mPure .nx)))))))))))))))) [])
    (mRet (mPure (.bool true))))
noncomputable def F_law : FS := runF 12 1 m_law
structure Txt (P : Program) (K : PySem.W.Frag) (mg : Str → Option Value) : Prop where
  n_abs : mg "abs" = none
  n_all : mg "all" = none
  n_bool : mg "bool" = none
  n_int : mg "int" = none
  n_isinstance : mg "isinstance" = none
  n_len : mg "len" = none
  n_list : mg "list" = none
  n_max : mg "max" = none
  n_min : mg "min" = none
  n_range : mg "range" = none
  n_repr : mg "repr" = none
  n_set : mg "set" = none
  n_sorted : mg "sorted" = none
  n_tuple : mg "tuple" = none
  n_zip : mg "zip" = none
  v_MOST_COIN : ∃ t, mg "MOST_COIN" = some (.int 60 t)
  v_MOST_COINS : ∃ t, mg "MOST_COINS" = some (.int 5 t)
  cls : ∃ D : Addr, mg "CutError" = some (.ref D) ∧ ∀ nm ∈ NM, ∃ C fI : Addr, mg nm = some (.ref C) ∧ PySem.CutX.CutTxt P K C D fI ∧ ExcC K C ∧ XfC K C ∧ PySem.W.findIn K (.ref C) "value" = some none ∧ PySem.W.kitOne K (.type "NoneType") (.ref C) = some false ∧ PySem.W.exmOne K (.ref C) (.ref D) = some true
section
variable {P : Program} {w : World} {K : PySem.W.Frag} {mg : Str → Option Value} {base : Heap} {f : Addr} {fd : FuncData}
theorem ok__law_well (T : Txt P K mg) (F : Fun K "_law_well" "_law_well" st__law_well f fd) : FnG P w K mg base (L2.CX P w) 2 f fd ["script", "k"] (spG K mg 2 F__law_well) := by
  refine fn_okG (m := m__law_well) F sc__law_well fun cdv A outer s H E gd => ?_
  have nd := sc__law_well.nd
  have tk : Takes (cxOf (L2.CX P w) P w K mg base N__law_well "_law_well" (defScope st__law_well) f cdv A outer s H E) (fun cls d _ H => E cls d H) := takes_of rfl rfl rfl rfl
  unfold m__law_well
  exact (dss_cons (ds_set (i := 2) nd rfl (by first | exact Or.inl rfl | exact Or.inr rfl) (de_if (dt_cmpB op_lt ltB_ok (de_var (pv 1)) (de_bf1 call_len lenD_ok T.n_len (by rfl) (de_var (pv 0)).toB).toB (nomark _)) (de_ty1 call_int1 intD_ok T.n_int (by rfl) (de_ix ix_seq ixD_ok (de_var (pv 0)) (de_var (pv 1)) (fun _ _ => rfl)).toB) (de_op op_addA addD_ok (de_op op_mulA mulD_ok de_int (de_var (pv 1))) de_int)))
    (dss_cons (ds_set (i := 3) nd rfl (by first | exact Or.inl rfl | exact Or.inr rfl) (de_op op_addA addD_ok de_int (de_bf1 call_len lenD_ok T.n_len (by rfl) (de_var (pv 0)).toB)))
    (dss_cons (ds_for [] (passes_of rfl) rfl (di_val (de_sl (de_var (pv 0)) do_none (do_some de_int))) (pg_name (i := 4) nd rfl (by first | exact Or.inl rfl | exact Or.inr rfl)) gok_name (dss_one (ds_set (i := 3) nd rfl (by first | exact Or.inl rfl | exact Or.inr rfl) (de_op op_modN modD_ok (de_ty1 call_int1 intD_ok T.n_int (by rfl) (de_op op_addA addD_ok (de_op op_mulA mulD_ok (de_var (pv 3)) de_int) (de_op op_modN modD_ok (de_ty1 call_int1 intD_ok T.n_int (by rfl) (de_var (pv 4)).toB) (de_op op_addA addD_ok (de_op op_pow powD_ok de_int de_int) de_int))).toB) (de_op op_addA addD_ok (de_op op_pow powD_ok de_int de_int) de_int)))))
    (dss_cons (ds_set (i := 5) nd rfl (by first | exact Or.inl rfl | exact Or.inr rfl) (de_op op_modN modD_ok (de_ty1 call_int1 intD_ok T.n_int (by rfl) (de_op op_addA addD_ok (de_op op_addA addD_ok (de_op op_addA addD_ok (de_op op_mulA mulD_ok (de_bf1 call_abs absD_ok T.n_abs (by rfl) (de_var (pv 2)).toB) de_int) (de_op op_mulA mulD_ok (de_var (pv 3)) de_int)) (de_op op_mulA mulD_ok de_int (de_ty1 call_int1 intD_ok T.n_int (by rfl) (de_cmpB op_lt ltB_ok (de_var (pv 2)) de_int.toB (nomark _)).toB))) (de_op op_mulA mulD_ok de_int (de_var (pv 1)))).toB) (de_op op_addA addD_ok (de_op op_pow powD_ok de_int de_int) de_int)))
    (dss_one (ds_retL (df_lst (da_cons (de_bfn (call_max2 rfl) max2D_ok T.n_max (by rfl) (da_cons de_int (da_cons (de_op op_sub subD_ok (de_bf1 call_abs absD_ok T.n_abs (by rfl) (de_var (pv 2)).toB) (de_op op_pow powD_ok de_int de_int)) da_nil))) (da_cons (de_var (pv 5)) (da_cons de_int da_nil))))))))))
theorem ok__law_draw (T : Txt P K mg) (F : Fun K "_law_draw" "_law_draw" st__law_draw f fd) : FnG P w K mg base (L2.CX P w) 2 f fd ["well", "many"] (spG K mg 2 F__law_draw) := by
  refine fn_okG (m := m__law_draw) F sc__law_draw fun cdv A outer s H E gd => ?_
  have nd := sc__law_draw.nd
  have tk : Takes (cxOf (L2.CX P w) P w K mg base N__law_draw "_law_draw" (defScope st__law_draw) f cdv A outer s H E) (fun cls d _ H => E cls d H) := takes_of rfl rfl rfl rfl
  unfold m__law_draw
  exact (dss_cons (ds_if (dt_cmpB op_gt gtB_ok (de_ixV ix_seq ixB_ok (pv 0) de_int (fun _ _ => rfl)) de_int.toB (nomark _)) (dss_cons (ds_set (i := 4) nd rfl (by first | exact Or.inl rfl | exact Or.inr rfl) (de_op op_modN modD_ok (de_ty1 call_int1 intD_ok T.n_int (by rfl) (de_ixV ix_seq ixB_ok (pv 0) de_int (fun _ _ => rfl)).toB) (de_var (pv 1))))
    (dss_cons (ds_setIx (pv 0) de_int (de_op op_fdivA fdivD_ok (de_ixV ix_seq ixB_ok (pv 0) de_int (fun _ _ => rfl)) (de_var (pv 1))))
    (dss_one (ds_retV (pv 4))))) dss_nil)
    (dss_cons (ds_setIx (pv 0) de_int (de_op op_addA addD_ok (de_ixV ix_seq ixB_ok (pv 0) de_int (fun _ _ => rfl)) de_int))
    (dss_cons (ds_set (i := 2) nd rfl (by first | exact Or.inl rfl | exact Or.inr rfl) (de_ixV ix_seq ixB_ok (pv 0) de_int (fun _ _ => rfl)))
    (dss_cons (ds_set (i := 3) nd rfl (by first | exact Or.inl rfl | exact Or.inr rfl) (de_op op_modN modD_ok (de_ty1 call_int1 intD_ok T.n_int (by rfl) (de_op op_addA addD_ok (de_op op_addA addD_ok (de_op op_mulA mulD_ok (de_op op_mulA mulD_ok (de_op op_addA addD_ok (de_ixV ix_seq ixB_ok (pv 0) de_int (fun _ _ => rfl)) de_int) (de_op op_addA addD_ok (de_var (pv 2)) de_int)) de_int) (de_op op_mulA mulD_ok (de_op op_mulA mulD_ok (de_op op_mulA mulD_ok (de_var (pv 2)) (de_var (pv 2))) (de_var (pv 2))) de_int)) de_int).toB) (de_op op_addA addD_ok (de_op op_pow powD_ok de_int de_int) de_int)))
    (dss_cons (ds_set (i := 3) nd rfl (by first | exact Or.inl rfl | exact Or.inr rfl) (de_op op_modN modD_ok (de_ty1 call_int1 intD_ok T.n_int (by rfl) (de_op op_addA addD_ok (de_op op_addA addD_ok (de_op op_mulA mulD_ok (de_var (pv 3)) (de_var (pv 3))) (de_op op_mulA mulD_ok (de_ixV ix_seq ixB_ok (pv 0) de_int (fun _ _ => rfl)) de_int)) (de_var (pv 2))).toB) (de_op op_addA addD_ok (de_op op_pow powD_ok de_int de_int) de_int)))
    (dss_cons (ds_set (i := 3) nd rfl (by first | exact Or.inl rfl | exact Or.inr rfl) (de_op op_modN modD_ok (de_ty1 call_int1 intD_ok T.n_int (by rfl) (de_op op_addA addD_ok (de_op op_mulA mulD_ok (de_op op_mulA mulD_ok (de_var (pv 3)) (de_var (pv 3))) de_int) (de_op op_mulA mulD_ok (de_var (pv 3)) de_int)).toB) (de_op op_addA addD_ok (de_op op_pow powD_ok de_int de_int) de_int)))
    (dss_one (ds_ret (de_op op_modN modD_ok (de_ty1 call_int1 intD_ok T.n_int (by rfl) (de_op op_fdivA fdivD_ok (de_var (pv 3)) de_int).toB) (de_var (pv 1)))))))))))
theorem ok__law_coins (T : Txt P K mg) (c__law_draw : CalT P w K mg base 2 "_law_draw" 2 F__law_draw) (F : Fun K "_law_coins" "_law_coins" st__law_coins f fd) : FnG P w K mg base (L2.CX P w) 3 f fd ["well"] (spG K mg 1 F__law_coins) := by
  refine fn_okG (m := m__law_coins) F sc__law_coins fun cdv A outer s H E gd => ?_
  have nd := sc__law_coins.nd
  have tk : Takes (cxOf (L2.CX P w) P w K mg base N__law_coins "_law_coins" (defScope st__law_coins) f cdv A outer s H E) (fun cls d _ H => E cls d H) := takes_of rfl rfl rfl rfl
  unfold m__law_coins
  exact (dss_cons (ds_set (i := 1) nd rfl (by first | exact Or.inl rfl | exact Or.inr rfl) (de_ix ix_seq ixD_ok (df_lst (da_cons de_int (da_cons de_int (da_cons de_int da_nil)))).toE (de_callI ⟨c__law_draw.ex⟩ (gd.mono (by decide)) tk (by rfl) (pv 0) (da_cons de_int da_nil) (LenM.cons LenM.nil) rfl) (fun _ _ => rfl)))
    (dss_one (ds_ret (de_ty1 call_tuple_of tupD_ok T.n_tuple (by rfl) (df_sortedSet rfl (by rfl) T.n_sorted (by rfl) T.n_set (df_lc (own := [("turn", 2)]) rfl nd (di_range1 T.n_range (da_cons (de_op op_addA addD_ok de_int (de_callI ⟨c__law_draw.ex⟩ (gd.mono (by decide)) tk (by rfl) (pv 0) (da_cons de_int da_nil) (LenM.cons LenM.nil) rfl)) da_nil) (LenM.cons LenM.nil)) (blkOk_by (own := [("turn", 2)]) (N := N__law_coins) (sc := defScope st__law_coins) (by decide +kernel)) (fun _ _ _ _ _ => (pg_name (i := 2) nd rfl (by first | exact Or.inl rfl | exact Or.inr rfl))) gok_name (by decide) (fun _ _ _ _ _ => dts_nil) (fun _ _ _ _ _ => (de_op op_addA addD_ok de_int (de_callI ⟨c__law_draw.ex⟩ ((gd.blk _ _ _ _ _).mono (by decide)) takes0 (by rfl) (pv 0) (da_cons (de_var (pv 1)) da_nil) (LenM.cons LenM.nil) rfl)))).toE.toB).toE.toB))))
theorem ok__law_fewest (T : Txt P K mg) (F : Fun K "_law_fewest" "_law_fewest" st__law_fewest f fd) : FnG P w K mg base (L2.CX P w) 2 f fd ["coins", "n"] (spG K mg 2 F__law_fewest) := by
  refine fn_okG (m := m__law_fewest) F sc__law_fewest fun cdv A outer s H E gd => ?_
  have nd := sc__law_fewest.nd
  have tk : Takes (cxOf (L2.CX P w) P w K mg base N__law_fewest "_law_fewest" (defScope st__law_fewest) f cdv A outer s H E) (fun cls d _ H => E cls d H) := takes_of rfl rfl rfl rfl
  unfold m__law_fewest
  exact (dss_cons (ds_setL (i := 2) nd rfl (by first | exact Or.inl rfl | exact Or.inr rfl) (df_lst (da_cons de_int da_nil)))
    (dss_cons (ds_for [] (passes_of rfl) rfl (di_range2 T.n_range (da_cons de_int (da_cons (de_op op_addA addD_ok (de_var (pv 1)) de_int) da_nil)) (LenM.cons (LenM.cons LenM.nil))) (pg_name (i := 3) nd rfl (by first | exact Or.inl rfl | exact Or.inr rfl)) gok_name (dss_cons (by exact (ds_setLc (own := [("coin", 5)]) (i := 4) rfl nd rfl rfl (by exact sw_true rfl rfl rfl (by decide +kernel)) (di_val (de_var (pv 0))) (blkOk_by (own := [("coin", 5)]) (N := N__law_fewest) (sc := defScope st__law_fewest) (by decide +kernel)) (fun _ _ _ _ _ => (pg_name (i := 5) nd rfl (by first | exact Or.inl rfl | exact Or.inr rfl))) gok_name (by decide) (fun _ _ _ _ _ => (dts_one (dt_cmpB op_le leB_ok (de_var (pv 5)) (de_var (pv 3)).toB (nomark _)))) (fun _ _ _ _ _ => (de_ixV ix_seq ixB_ok (pv 2) (de_op op_sub subD_ok (de_var (pv 3)) (de_var (pv 5))) (fun _ _ => rfl)))))
    (dss_cons (by exact (ds_setLc (own := [("way", 6)]) (i := 4) rfl nd rfl rfl (by exact sw_true rfl rfl rfl (by decide +kernel)) (di_val (de_var (pv 4))) (blkOk_by (own := [("way", 6)]) (N := N__law_fewest) (sc := defScope st__law_fewest) (by decide +kernel)) (fun _ _ _ _ _ => (pg_name (i := 6) nd rfl (by first | exact Or.inl rfl | exact Or.inr rfl))) gok_name (by decide) (fun _ _ _ _ _ => (dts_one (dt_cmpB op_notN isnB_ok (de_var (pv 6)) de_non.toB (nomark _)))) (fun _ _ _ _ _ => (de_var (pv 6)))))
    (dss_one (ds_expr (de_meth PySem.F.slot_list_append PySem.F.type_list_append mt_append appendD_ok (pv 2) (da_cons (de_if (dt_cmpV (op_neK gd) neB_ok (pv 4) (df_lst da_nil).toE.toB (nomark _)) (de_op op_addA addD_ok de_int (de_bf1 (cr_min rfl) minLD_ok T.n_min (by rfl) (db_var (pv 4)))) de_non) da_nil)))))))
    (dss_one (ds_retV (pv 2)))))
theorem ok_is_integer (T : Txt P K mg) (F : Fun K "is_integer" "is_integer" st_is_integer f fd) : FnG P w K mg base (L2.CX P w) 2 f fd ["value"] (spG K mg 1 F_is_integer) := by
  refine fn_okG (m := m_is_integer) F sc_is_integer fun cdv A outer s H E gd => ?_
  have nd := sc_is_integer.nd
  have tk : Takes (cxOf (L2.CX P w) P w K mg base N_is_integer "is_integer" (defScope st_is_integer) f cdv A outer s H E) (fun cls d _ H => E cls d H) := takes_of rfl rfl rfl rfl
  unfold m_is_integer
  exact (dss_one (ds_ret (de_and (de_isi T.n_isinstance T.n_int (by rfl) (by decide) (de_var (pv 0)).toB) (de_one (de_not (de_isi T.n_isinstance T.n_bool (by rfl) (by decide) (de_var (pv 0)).toB))))))
theorem ok_is_between (T : Txt P K mg) (c_is_integer : CalT P w K mg base 2 "is_integer" 1 F_is_integer) (F : Fun K "is_between" "is_between" st_is_between f fd) : FnG P w K mg base (L2.CX P w) 3 f fd ["value", "low", "high"] (spG K mg 3 F_is_between) := by
  refine fn_okG (m := m_is_between) F sc_is_between fun cdv A outer s H E gd => ?_
  have nd := sc_is_between.nd
  have tk : Takes (cxOf (L2.CX P w) P w K mg base N_is_between "is_between" (defScope st_is_between) f cdv A outer s H E) (fun cls d _ H => E cls d H) := takes_of rfl rfl rfl rfl
  unfold m_is_between
  exact (dss_one (ds_ret (de_and (de_call ⟨c_is_integer.ex⟩ (gd.mono (by decide)) tk (by rfl) (da_cons (de_var (pv 0)) da_nil) (LenM.cons LenM.nil)) (de_one (de_chain op_le leD_ok op_le leD_ok (de_var (pv 1)) (de_var (pv 0)) (de_var (pv 2)))))))
theorem ok_are_coins (T : Txt P K mg) (c_is_between : CalT P w K mg base 3 "is_between" 3 F_is_between) (F : Fun K "are_coins" "are_coins" st_are_coins f fd) : FnG P w K mg base (L2.CX P w) 4 f fd ["value"] (spG K mg 1 F_are_coins) := by
  refine fn_okG (m := m_are_coins) F sc_are_coins fun cdv A outer s H E gd => ?_
  have nd := sc_are_coins.nd
  have tk : Takes (cxOf (L2.CX P w) P w K mg base N_are_coins "are_coins" (defScope st_are_coins) f cdv A outer s H E) (fun cls d _ H => E cls d H) := takes_of rfl rfl rfl rfl
  unfold m_are_coins
  exact (dss_cons (ds_if (dw_or (dt_not (dt_val (de_isi T.n_isinstance T.n_tuple (by rfl) (by decide) (de_var (pv 0)).toB).toB)) (dw_or1 (dt_not (dt_chain op_le leD_ok op_le leD_ok de_int (de_bf1 call_len lenD_ok T.n_len (by rfl) (de_var (pv 0)).toB) (by obtain ⟨tk_, h_⟩ := T.v_MOST_COINS; exact de_glob (v := V.int 5) h_ ⟨tk_, rfl⟩ (fun _ _ => .int _)))))).toT (dss_one (ds_ret de_bl)) dss_nil)
    (dss_cons (ds_if (dt_not (dt_val (de_bf1 (cr_all rfl) allD_ok T.n_all (by rfl) (df_lc (own := [("coin", 1)]) rfl nd (di_val (de_var (pv 0))) (blkOk_by (own := [("coin", 1)]) (N := N_are_coins) (sc := defScope st_are_coins) (by decide +kernel)) (fun _ _ _ _ _ => (pg_name (i := 1) nd rfl (by first | exact Or.inl rfl | exact Or.inr rfl))) gok_name (by decide) (fun _ _ _ _ _ => dts_nil) (fun _ _ _ _ _ => (de_call ⟨c_is_between.ex⟩ ((gd.blk _ _ _ _ _).mono (by decide)) takes0 (by rfl) (da_cons (de_var (pv 1)) (da_cons de_int (da_cons (by obtain ⟨tk_, h_⟩ := T.v_MOST_COIN; exact de_glob (v := V.int 60) h_ ⟨tk_, rfl⟩ (fun _ _ => .int _)) da_nil))) (LenM.cons (LenM.cons (LenM.cons LenM.nil)))))).toE.toB).toB)) (dss_one (ds_ret de_bl)) dss_nil)
    (dss_one (ds_ret (de_bf1 (cr_all rfl) allD_ok T.n_all (by rfl) (df_lc (own := [("one", 2), ("other", 3)]) rfl nd (di_zip T.n_zip (da_cons (de_var (pv 0)) (da_cons (de_sl (de_var (pv 0)) (do_some de_int) do_none) da_nil)) (LenM.cons (LenM.cons LenM.nil))) (blkOk_by (own := [("one", 2), ("other", 3)]) (N := N_are_coins) (sc := defScope st_are_coins) (by decide +kernel)) (fun _ _ _ _ _ => (pg_tup (n := 2) rfl (pgs_cons (pg_name (i := 2) nd rfl (by first | exact Or.inl rfl | exact Or.inr rfl)) (pgs_cons (pg_name (i := 3) nd rfl (by first | exact Or.inl rfl | exact Or.inr rfl)) pgs_nil)))) (gok_tup (gok_cons gok_name (gok_cons gok_name gok_nil))) (by decide) (fun _ _ _ _ _ => dts_nil) (fun _ _ _ _ _ => (de_cmpB op_lt ltB_ok (de_var (pv 2)) (de_var (pv 3)).toB (nomark _)))).toE.toB)))))
theorem ok_anew (T : Txt P K mg) (F : Fun K "anew" "anew" st_anew f fd) (g_ : mg "anew" = some (.ref f)) (b_ : Binds K fd ["value"] []) : ∀ n : Nat, FnG P w K mg base (L2.CX P w) (1 + n) f fd ["value"] (spG K mg 1 (F_anew n))
  | 0 => FnG.never
  | n + 1 => by
    have c_self : CalT P w K mg base (1 + n) "anew" 1 (F_anew n) := ⟨f, fd, ["value"], rfl, ok_anew T F g_ b_ n, g_, F.kp, b_⟩
    refine fn_okG (m := m_anew (F_anew n)) F sc_anew fun cdv A outer s H E gd => ?_
    have nd := sc_anew.nd
    have tk : Takes (cxOf (L2.CX P w) P w K mg base N_anew "anew" (defScope st_anew) f cdv A outer s H E) (fun cls d _ H => E cls d H) := takes_of rfl rfl rfl rfl
    unfold m_anew
    exact (dss_cons (ds_if (dt_val (de_isi T.n_isinstance T.n_list (by rfl) (by decide) (de_var (pv 0)).toB).toB) (dss_one (ds_retL (df_lc (own := [("part", 1)]) rfl nd (di_val (de_var (pv 0))) (blkOk_by (own := [("part", 1)]) (N := N_anew) (sc := defScope st_anew) (by decide +kernel)) (fun _ _ _ _ _ => (pg_name (i := 1) nd rfl (by first | exact Or.inl rfl | exact Or.inr rfl))) gok_name (by decide) (fun _ _ _ _ _ => dts_nil) (fun _ _ _ _ _ => (de_call ⟨c_self.ex⟩ (gd.blk _ _ _ _ _) takes0 (by rfl) (da_cons (de_var (pv 1)) da_nil) (LenM.cons LenM.nil)))))) dss_nil)
    (dss_cons (ds_if (dt_val (de_isi T.n_isinstance T.n_tuple (by rfl) (by decide) (de_var (pv 0)).toB).toB) (dss_one (ds_ret (de_ty1 call_tuple_of tupD_ok T.n_tuple (by rfl) (df_lc (own := [("part", 1)]) rfl nd (di_val (de_var (pv 0))) (blkOk_by (own := [("part", 1)]) (N := N_anew) (sc := defScope st_anew) (by decide +kernel)) (fun _ _ _ _ _ => (pg_name (i := 1) nd rfl (by first | exact Or.inl rfl | exact Or.inr rfl))) gok_name (by decide) (fun _ _ _ _ _ => dts_nil) (fun _ _ _ _ _ => (de_call ⟨c_self.ex⟩ (gd.blk _ _ _ _ _) takes0 (by rfl) (da_cons (de_var (pv 1)) da_nil) (LenM.cons LenM.nil)))).toE.toB))) dss_nil)
    (dss_one (ds_retV (pv 0)))))
theorem ok_need_coins (T : Txt P K mg) (c_anew : CalT P w K mg base 14 "anew" 1 (F_anew LV)) (c_are_coins : CalT P w K mg base 4 "are_coins" 1 F_are_coins) (F : Fun K "need_coins" "need_coins" st_need_coins f fd) : FnG P w K mg base (L2.CX P w) 15 f fd ["coins"] (spG K mg 1 F_need_coins) := by
  obtain ⟨D_, gC_CutError, hc_⟩ := T.cls
  obtain ⟨C_InvalidCoins, I_InvalidCoins, gC_InvalidCoins, cut_InvalidCoins, eC_InvalidCoins, xC_InvalidCoins, vC_InvalidCoins, nC_InvalidCoins, tC_InvalidCoins⟩ := hc_ "InvalidCoins" (by decide)
  have hN_ : ∀ nm ∈ NM, ∀ C, mg nm = some (.ref C) → PySem.W.exmOne K (.ref C) (.ref D_) = some true := fun nm h C e => by
    obtain ⟨C', I', g', _, _, _, _, _, t'⟩ := hc_ nm h
    rw [e] at g'; cases g'; exact t'
  have hX_ : ∀ nm ∈ NM, ∀ C, mg nm = some (.ref C) → XfC K C ∧ PySem.W.findIn K (.ref C) "value" = some none := fun nm h C e => by
    obtain ⟨C', I', g', _, _, x', v', _, _⟩ := hc_ nm h
    rw [e] at g'; cases g'; exact ⟨x', v'⟩
  refine fn_okG (m := m_need_coins) F sc_need_coins fun cdv A outer s H E gd => ?_
  have nd := sc_need_coins.nd
  have tk : Takes (cxOf (L2.CX P w) P w K mg base N_need_coins "need_coins" (defScope st_need_coins) f cdv A outer s H E) (fun cls d _ H => E cls d H) := takes_of rfl rfl rfl rfl
  unfold m_need_coins
  exact (dss_one (ds_if (dt_not (dt_val (de_call ⟨c_are_coins.ex⟩ (gd.mono (by decide)) tk (by rfl) (da_cons (de_var (pv 0)) da_nil) (LenM.cons LenM.nil)).toB)) (dss_one (ds_raise rfl cut_InvalidCoins gC_InvalidCoins gd tk (de_call ⟨c_anew.ex⟩ (gd.mono (by decide)) tk (by rfl) (da_cons (de_var (pv 0)) da_nil) (LenM.cons LenM.nil)) (by rfl))) dss_nil))
theorem ok_fewest_to (T : Txt P K mg) (F : Fun K "fewest_to" "fewest_to" st_fewest_to f fd) : FnG P w K mg base (L2.CX P w) 2 f fd ["coins", "n"] (spG K mg 2 F_fewest_to) := by
  refine fn_okG (m := m_fewest_to) F sc_fewest_to fun cdv A outer s H E gd => ?_
  have nd := sc_fewest_to.nd
  have tk : Takes (cxOf (L2.CX P w) P w K mg base N_fewest_to "fewest_to" (defScope st_fewest_to) f cdv A outer s H E) (fun cls d _ H => E cls d H) := takes_of rfl rfl rfl rfl
  unfold m_fewest_to
  exact (dss_cons (ds_setL (i := 2) nd rfl (by first | exact Or.inl rfl | exact Or.inr rfl) (df_op op_catL catD_ok (df_lst (da_cons de_int da_nil)).toE (de_op op_mulA mulD_ok (df_lst (da_cons de_non da_nil)).toE (de_var (pv 1)))))
    (dss_cons (ds_for [] (passes_of rfl) rfl (di_range2 T.n_range (da_cons de_int (da_cons (de_op op_addA addD_ok (de_var (pv 1)) de_int) da_nil)) (LenM.cons (LenM.cons LenM.nil))) (pg_name (i := 3) nd rfl (by first | exact Or.inl rfl | exact Or.inr rfl)) gok_name (dss_cons (by exact (ds_setLc (own := [("coin", 5)]) (i := 4) rfl nd rfl rfl (by exact sw_true rfl rfl rfl (by decide +kernel)) (di_val (de_var (pv 0))) (blkOk_by (own := [("coin", 5)]) (N := N_fewest_to) (sc := defScope st_fewest_to) (by decide +kernel)) (fun _ _ _ _ _ => (pg_name (i := 5) nd rfl (by first | exact Or.inl rfl | exact Or.inr rfl))) gok_name (by decide) (fun _ _ _ _ _ => (dts_one (dw_and (dt_cmpB op_le leB_ok (de_var (pv 5)) (de_var (pv 3)).toB (nomark _)) (dw_and1 (dt_cmpB op_notN isnB_ok (de_ixV ix_seq ixB_ok (pv 2) (de_op op_sub subD_ok (de_var (pv 3)) (de_var (pv 5))) (fun _ _ => rfl)) de_non.toB (nomark _)))).toT)) (fun _ _ _ _ _ => (de_ixV ix_seq ixB_ok (pv 2) (de_op op_sub subD_ok (de_var (pv 3)) (de_var (pv 5))) (fun _ _ => rfl)))))
    (dss_one (ds_if (dt_cmpV (op_neK gd) neB_ok (pv 4) (df_lst da_nil).toE.toB (nomark _)) (dss_one (ds_setIx (pv 2) (de_var (pv 3)) (de_op op_addA addD_ok de_int (de_bf1 (cr_min rfl) minLD_ok T.n_min (by rfl) (db_var (pv 4)))))) dss_nil))))
    (dss_one (ds_retV (pv 2)))))
theorem ok_round_table (T : Txt P K mg) (c_fewest_to : CalT P w K mg base 2 "fewest_to" 2 F_fewest_to) (F : Fun K "round_table" "round_table" st_round_table f fd) : FnG P w K mg base (L2.CX P w) 3 f fd ["coins"] (spG K mg 1 F_round_table) := by
  refine fn_okG (m := m_round_table) F sc_round_table fun cdv A outer s H E gd => ?_
  have nd := sc_round_table.nd
  have tk : Takes (cxOf (L2.CX P w) P w K mg base N_round_table "round_table" (defScope st_round_table) f cdv A outer s H E) (fun cls d _ H => E cls d H) := takes_of rfl rfl rfl rfl
  unfold m_round_table
  exact (dss_cons (ds_set (i := 1) nd rfl (by first | exact Or.inl rfl | exact Or.inr rfl) (de_ix ix_seq ixD_ok (de_var (pv 0)) (de_neg de_int) (fun _ _ => rfl)))
    (dss_cons (ds_set (i := 2) nd rfl (by first | exact Or.inl rfl | exact Or.inr rfl) (de_call ⟨c_fewest_to.ex⟩ (gd.mono (by decide)) tk (by rfl) (da_cons (de_var (pv 0)) (da_cons (de_op op_addA addD_ok (de_op op_pow powD_ok (de_op op_sub subD_ok (de_var (pv 1)) de_int) de_int) (de_op op_mulA mulD_ok de_int (de_var (pv 1)))) da_nil)) (LenM.cons (LenM.cons LenM.nil))))
    (dss_cons (by exact (ds_setLc (own := [("n", 5)]) (i := 3) rfl nd rfl rfl (by exact sw_true rfl rfl rfl (by decide +kernel)) (di_range1 T.n_range (da_cons (de_op op_sub subD_ok (de_bf1 call_len lenD_ok T.n_len (by rfl) (de_var (pv 2)).toB) (de_var (pv 1))) da_nil) (LenM.cons LenM.nil)) (blkOk_by (own := [("n", 5)]) (N := N_round_table) (sc := defScope st_round_table) (by decide +kernel)) (fun _ _ _ _ _ => (pg_name (i := 5) nd rfl (by first | exact Or.inl rfl | exact Or.inr rfl))) gok_name (by decide) (fun _ _ _ _ _ => (dts_one (dt_cmpB (op_neK (gd.blk _ _ _ _ _)) neB_ok (de_ix ix_seq ixD_ok (de_var (pv 2)) (de_op op_addA addD_ok (de_var (pv 5)) (de_var (pv 1))) (fun _ _ => rfl)) (de_op op_addA addD_ok (de_ix ix_seq ixD_ok (de_var (pv 2)) (de_var (pv 5)) (fun _ _ => rfl)) de_int).toB (nomark _)))) (fun _ _ _ _ _ => (de_var (pv 5)))))
    (dss_cons (ds_set (i := 4) nd rfl (by first | exact Or.inl rfl | exact Or.inr rfl) (de_if (dt_cmpV (op_neK gd) neB_ok (pv 3) (df_lst da_nil).toE.toB (nomark _)) (de_op op_addA addD_ok (de_ixV ix_seq ixB_ok (pv 3) (de_neg de_int) (fun _ _ => rfl)) de_int) de_int))
    (dss_one (ds_ret (de_tup trivial (da_cons (de_var (pv 4)) (da_cons (de_var (pv 1)) (da_cons de_int (da_cons (de_ty1 call_tuple_of tupD_ok T.n_tuple (by rfl) (de_sl (de_var (pv 2)) do_none (do_some (de_op op_addA addD_ok (de_var (pv 4)) (de_var (pv 1))))).toB) da_nil)))))))))))
theorem ok_fewest_table (T : Txt P K mg) (c_anew : CalT P w K mg base 14 "anew" 1 (F_anew LV)) (c_need_coins : CalT P w K mg base 15 "need_coins" 1 F_need_coins) (c_round_table : CalT P w K mg base 3 "round_table" 1 F_round_table) (F : Fun K "fewest_table" "fewest_table" st_fewest_table f fd) : FnG P w K mg base (L2.CX P w) 16 f fd ["coins"] (spG K mg 1 F_fewest_table) := by
  obtain ⟨D_, gC_CutError, hc_⟩ := T.cls
  obtain ⟨C_InvalidCoins, I_InvalidCoins, gC_InvalidCoins, cut_InvalidCoins, eC_InvalidCoins, xC_InvalidCoins, vC_InvalidCoins, nC_InvalidCoins, tC_InvalidCoins⟩ := hc_ "InvalidCoins" (by decide)
  have hN_ : ∀ nm ∈ NM, ∀ C, mg nm = some (.ref C) → PySem.W.exmOne K (.ref C) (.ref D_) = some true := fun nm h C e => by
    obtain ⟨C', I', g', _, _, _, _, _, t'⟩ := hc_ nm h
    rw [e] at g'; cases g'; exact t'
  have hX_ : ∀ nm ∈ NM, ∀ C, mg nm = some (.ref C) → XfC K C ∧ PySem.W.findIn K (.ref C) "value" = some none := fun nm h C e => by
    obtain ⟨C', I', g', _, _, x', v', _, _⟩ := hc_ nm h
    rw [e] at g'; cases g'; exact ⟨x', v'⟩
  refine fn_okG (m := m_fewest_table) F sc_fewest_table fun cdv A outer s H E gd => ?_
  have nd := sc_fewest_table.nd
  have tk : Takes (cxOf (L2.CX P w) P w K mg base N_fewest_table "fewest_table" (defScope st_fewest_table) f cdv A outer s H E) (fun cls d _ H => E cls d H) := takes_of rfl rfl rfl rfl
  unfold m_fewest_table
  exact (dss_cons (ds_expr (de_call ⟨c_need_coins.ex⟩ (gd.mono (by decide)) tk (by rfl) (da_cons (de_var (pv 0)) da_nil) (LenM.cons LenM.nil)))
    (dss_cons (ds_if (dt_cmpB (op_neK gd) neB_ok (de_ix ix_seq ixD_ok (de_var (pv 0)) de_int (fun _ _ => rfl)) de_int.toB (nomark _)) (dss_one (ds_raise rfl cut_InvalidCoins gC_InvalidCoins gd tk (de_call ⟨c_anew.ex⟩ (gd.mono (by decide)) tk (by rfl) (da_cons (de_var (pv 0)) da_nil) (LenM.cons LenM.nil)) (by rfl))) dss_nil)
    (dss_one (ds_ret (de_call ⟨c_round_table.ex⟩ (gd.mono (by decide)) tk (by rfl) (da_cons (de_var (pv 0)) da_nil) (LenM.cons LenM.nil))))))
theorem ok_least_count (T : Txt P K mg) (c_fewest_to : CalT P w K mg base 2 "fewest_to" 2 F_fewest_to) (F : Fun K "least_count" "least_count" st_least_count f fd) : FnG P w K mg base (L2.CX P w) 3 f fd ["coins", "n"] (spG K mg 2 F_least_count) := by
  refine fn_okG (m := m_least_count) F sc_least_count fun cdv A outer s H E gd => ?_
  have nd := sc_least_count.nd
  have tk : Takes (cxOf (L2.CX P w) P w K mg base N_least_count "least_count" (defScope st_least_count) f cdv A outer s H E) (fun cls d _ H => E cls d H) := takes_of rfl rfl rfl rfl
  unfold m_least_count
  exact (dss_cons (ds_if (dt_cmpB op_lt ltB_ok (de_var (pv 1)) de_int.toB (nomark _)) (dss_one (ds_ret de_non)) dss_nil)
    (dss_cons (ds_set (i := 2) nd rfl (by first | exact Or.inl rfl | exact Or.inr rfl) (de_ix ix_seq ixD_ok (de_var (pv 0)) (de_neg de_int) (fun _ _ => rfl)))
    (dss_cons (ds_set (i := 3) nd rfl (by first | exact Or.inl rfl | exact Or.inr rfl) (de_op op_pow powD_ok (de_op op_sub subD_ok (de_var (pv 2)) de_int) de_int))
    (dss_cons (ds_set (i := 4) nd rfl (by first | exact Or.inl rfl | exact Or.inr rfl) (de_bfn (call_max2 rfl) max2D_ok T.n_max (by rfl) (da_cons de_int (da_cons (de_neg (de_op op_fdivA fdivD_ok (de_op op_sub subD_ok (de_var (pv 3)) (de_var (pv 1))) (de_var (pv 2)))) da_nil))))
    (dss_cons (ds_set (i := 5) nd rfl (by first | exact Or.inl rfl | exact Or.inr rfl) (de_ix ix_seq ixD_ok (de_call ⟨c_fewest_to.ex⟩ (gd.mono (by decide)) tk (by rfl) (da_cons (de_var (pv 0)) (da_cons (de_op op_sub subD_ok (de_var (pv 1)) (de_op op_mulA mulD_ok (de_var (pv 4)) (de_var (pv 2)))) da_nil)) (LenM.cons (LenM.cons LenM.nil))) (de_neg de_int) (fun _ _ => rfl)))
    (dss_one (ds_ret (de_if (dt_cmpB op_isN isB_ok (de_var (pv 5)) de_non.toB (nomark _)) de_non (de_op op_addA addD_ok (de_var (pv 5)) (de_var (pv 4)))))))))))
theorem ok_fewest (T : Txt P K mg) (c_least_count : CalT P w K mg base 3 "least_count" 2 F_least_count) (c_need_coins : CalT P w K mg base 15 "need_coins" 1 F_need_coins) (F : Fun K "fewest" "fewest" st_fewest f fd) : FnG P w K mg base (L2.CX P w) 16 f fd ["coins", "n"] (spG K mg 2 F_fewest) := by
  refine fn_okG (m := m_fewest) F sc_fewest fun cdv A outer s H E gd => ?_
  have nd := sc_fewest.nd
  have tk : Takes (cxOf (L2.CX P w) P w K mg base N_fewest "fewest" (defScope st_fewest) f cdv A outer s H E) (fun cls d _ H => E cls d H) := takes_of rfl rfl rfl rfl
  unfold m_fewest
  exact (dss_cons (ds_expr (de_call ⟨c_need_coins.ex⟩ (gd.mono (by decide)) tk (by rfl) (da_cons (de_var (pv 0)) da_nil) (LenM.cons LenM.nil)))
    (dss_one (ds_ret (de_call ⟨c_least_count.ex⟩ (gd.mono (by decide)) tk (by rfl) (da_cons (de_var (pv 0)) (da_cons (de_var (pv 1)) da_nil)) (LenM.cons (LenM.cons LenM.nil))))))
theorem ok__law_refused (T : Txt P K mg) (c_fewest_table : CalT P w K mg base 16 "fewest_table" 1 F_fewest_table) (F : Fun K "_law_refused" "_law_refused" st__law_refused f fd) : FnG P w K mg base (L2.CX P w) 17 f fd ["coins"] (spG K mg 1 F__law_refused) := by
  obtain ⟨D_, gC_CutError, hc_⟩ := T.cls
  obtain ⟨C_InvalidCoins, I_InvalidCoins, gC_InvalidCoins, cut_InvalidCoins, eC_InvalidCoins, xC_InvalidCoins, vC_InvalidCoins, nC_InvalidCoins, tC_InvalidCoins⟩ := hc_ "InvalidCoins" (by decide)
  have hN_ : ∀ nm ∈ NM, ∀ C, mg nm = some (.ref C) → PySem.W.exmOne K (.ref C) (.ref D_) = some true := fun nm h C e => by
    obtain ⟨C', I', g', _, _, _, _, _, t'⟩ := hc_ nm h
    rw [e] at g'; cases g'; exact t'
  have hX_ : ∀ nm ∈ NM, ∀ C, mg nm = some (.ref C) → XfC K C ∧ PySem.W.findIn K (.ref C) "value" = some none := fun nm h C e => by
    obtain ⟨C', I', g', _, _, x', v', _, _⟩ := hc_ nm h
    rw [e] at g'; cases g'; exact ⟨x', v'⟩
  refine fn_okG (m := m__law_refused) F sc__law_refused fun cdv A outer s H E gd => ?_
  have nd := sc__law_refused.nd
  have tk : Takes (cxOf (L2.CX P w) P w K mg base N__law_refused "_law_refused" (defScope st__law_refused) f cdv A outer s H E) (fun cls d _ H => E cls d H) := takes_of rfl rfl rfl rfl
  unfold m__law_refused
  exact (dss_cons (ds_set (i := 1) nd rfl (by first | exact Or.inl rfl | exact Or.inr rfl) de_non)
    (dss_cons (ds_try rfl rfl rfl nd rfl rfl ⟨by rfl, by decide, Or.inl gC_CutError⟩ tk rfl rfl (by decide) NM (by exact hN_) (fun W pn xe tk2 ps2 => (dss_one (ds_expr (de_call ⟨c_fewest_table.ex⟩ ((gd.tr _ _).mono (by decide)) tk2 (by rfl) (da_cons (de_var (pv 0)) da_nil) (LenM.cons LenM.nil))))) (fun _ _ => pv 2))
    (dss_one (ds_ret (de_and (de_isX T.n_isinstance gC_InvalidCoins eC_InvalidCoins nC_InvalidCoins (pv 1)) (de_one (de_cmpB (op_eqK gd) eqB_ok (de_bf1 (call_reprD gd) reprD_ok T.n_repr (by rfl) (de_valX NM (by exact hX_) (pv 1)).toB) (de_bf1 (call_reprD gd) reprD_ok T.n_repr (by rfl) (de_var (pv 0)).toB).toB (nomark _))))))))
theorem ok__law_is_table (T : Txt P K mg) (F : Fun K "_law_is_table" "_law_is_table" st__law_is_table f fd) : FnG P w K mg base (L2.CX P w) 2 f fd ["told", "coins", "rows"] (spG K mg 3 F__law_is_table) := by
  refine fn_okG (m := m__law_is_table) F sc__law_is_table fun cdv A outer s H E gd => ?_
  have nd := sc__law_is_table.nd
  have tk : Takes (cxOf (L2.CX P w) P w K mg base N__law_is_table "_law_is_table" (defScope st__law_is_table) f cdv A outer s H E) (fun cls d _ H => E cls d H) := takes_of rfl rfl rfl rfl
  unfold m__law_is_table
  exact (dss_cons (ds_if (dw_or (dt_not (dt_val (de_isi T.n_isinstance T.n_tuple (by rfl) (by decide) (de_var (pv 0)).toB).toB)) (dw_or (dt_cmpB (op_neK gd) neB_ok (de_bf1 call_len lenD_ok T.n_len (by rfl) (de_var (pv 0)).toB) de_int.toB (nomark _)) (dw_or1 (dt_cmpB (op_neK gd) neB_ok (de_ix ix_seq ixD_ok (de_var (pv 0)) de_int (fun _ _ => rfl)) (de_ty1 call_tuple_of tupD_ok T.n_tuple (by rfl) (de_sl (de_var (pv 2)) do_none (do_some (de_op op_addA addD_ok (de_ix ix_seq ixD_ok (de_var (pv 0)) de_int (fun _ _ => rfl)) (de_ix ix_seq ixD_ok (de_var (pv 0)) de_int (fun _ _ => rfl))))).toB).toB (nomark _))))).toT (dss_one (ds_ret de_bl)) dss_nil)
    (dss_cons (ds_asg (pg_tup (n := 4) rfl (pgs_cons (pg_name (i := 5) nd rfl (by first | exact Or.inl rfl | exact Or.inr rfl)) (pgs_cons (pg_name (i := 6) nd rfl (by first | exact Or.inl rfl | exact Or.inr rfl)) (pgs_cons (pg_name (i := 7) nd rfl (by first | exact Or.inl rfl | exact Or.inr rfl)) (pgs_cons (pg_name (i := 8) nd rfl (by first | exact Or.inl rfl | exact Or.inr rfl)) pgs_nil))))) (gok_tup (gok_cons gok_name (gok_cons gok_name (gok_cons gok_name (gok_cons gok_name gok_nil))))) (de_var (pv 0)))
    (dss_cons (ds_if (dw_or (dt_cmpB (op_neK gd) neB_ok (de_var (pv 6)) (de_ix ix_seq ixD_ok (de_var (pv 1)) (de_neg de_int) (fun _ _ => rfl)).toB (nomark _)) (dw_or1 (dt_cmpB (op_neK gd) neB_ok (df_lc (own := [("n", 9)]) rfl nd (di_range2 T.n_range (da_cons (de_var (pv 5)) (da_cons (de_op op_sub subD_ok (de_bf1 call_len lenD_ok T.n_len (by rfl) (de_var (pv 2)).toB) (de_var (pv 6))) da_nil)) (LenM.cons (LenM.cons LenM.nil))) (blkOk_by (own := [("n", 9)]) (N := N__law_is_table) (sc := defScope st__law_is_table) (by decide +kernel)) (fun _ _ _ _ _ => (pg_name (i := 9) nd rfl (by first | exact Or.inl rfl | exact Or.inr rfl))) gok_name (by decide) (fun _ _ _ _ _ => (dts_one (dt_cmpB (op_neK (gd.blk _ _ _ _ _)) neB_ok (de_ix ix_seq ixD_ok (de_var (pv 2)) (de_op op_addA addD_ok (de_var (pv 9)) (de_var (pv 6))) (fun _ _ => rfl)) (de_op op_addA addD_ok (de_ix ix_seq ixD_ok (de_var (pv 2)) (de_var (pv 9)) (fun _ _ => rfl)) (de_var (pv 7))).toB (nomark _)))) (fun _ _ _ _ _ => (de_var (pv 9)))).toE (df_lst da_nil).toE.toB (nomark _)))).toT (dss_one (ds_ret de_bl)) dss_nil)
    (dss_cons (ds_if (dw_and (dt_cmpB op_gt gtB_ok (de_var (pv 5)) de_int.toB (nomark _)) (dw_and1 (dt_cmpB (op_eqK gd) eqB_ok (de_ix ix_seq ixD_ok (de_var (pv 2)) (de_op op_addA addD_ok (de_op op_sub subD_ok (de_var (pv 5)) de_int) (de_var (pv 6))) (fun _ _ => rfl)) (de_op op_addA addD_ok (de_ix ix_seq ixD_ok (de_var (pv 2)) (de_op op_sub subD_ok (de_var (pv 5)) de_int) (fun _ _ => rfl)) (de_var (pv 7))).toB (nomark _)))).toT (dss_one (ds_ret de_bl)) dss_nil)
    (dss_cons (ds_set (i := 3) nd rfl (by first | exact Or.inl rfl | exact Or.inr rfl) (de_op op_mulA mulD_ok (de_op op_sub subD_ok (de_var (pv 6)) de_int) (de_op op_sub subD_ok (de_var (pv 6)) de_int)))
    (dss_cons (ds_for [] (passes_of rfl) rfl (di_range2 T.n_range (da_cons de_int (da_cons (de_var (pv 6)) da_nil)) (LenM.cons (LenM.cons LenM.nil))) (pg_name (i := 4) nd rfl (by first | exact Or.inl rfl | exact Or.inr rfl)) gok_name (dss_one (ds_if (dt_cmpB (op_eqK gd) eqB_ok (de_lenSet rfl (by rfl) T.n_len (by rfl) T.n_set (df_lc (own := [("n", 9)]) rfl nd (di_range2 T.n_range (da_cons (de_var (pv 3)) (da_cons (de_op op_addA addD_ok (de_var (pv 3)) (de_var (pv 6))) da_nil)) (LenM.cons (LenM.cons LenM.nil))) (blkOk_by (own := [("n", 9)]) (N := N__law_is_table) (sc := defScope st__law_is_table) (by decide +kernel)) (fun _ _ _ _ _ => (pg_name (i := 9) nd rfl (by first | exact Or.inl rfl | exact Or.inr rfl))) gok_name (by decide) (fun _ _ _ _ _ => dts_nil) (fun _ _ _ _ _ => (de_op op_sub subD_ok (de_ix ix_seq ixD_ok (de_var (pv 2)) (de_op op_addA addD_ok (de_var (pv 9)) (de_var (pv 4))) (fun _ _ => rfl)) (de_ix ix_seq ixD_ok (de_var (pv 2)) (de_var (pv 9)) (fun _ _ => rfl))))).toE.toB) de_int.toB (nomark _)) (dss_one (ds_ret de_bl)) dss_nil)))
    (dss_one (ds_ret de_bl))))))))
theorem ok_law (T : Txt P K mg) (c__law_coins : CalT P w K mg base 3 "_law_coins" 1 F__law_coins) (c__law_draw : CalT P w K mg base 2 "_law_draw" 2 F__law_draw) (c__law_fewest : CalT P w K mg base 2 "_law_fewest" 2 F__law_fewest) (c__law_is_table : CalT P w K mg base 2 "_law_is_table" 3 F__law_is_table) (c__law_refused : CalT P w K mg base 17 "_law_refused" 1 F__law_refused) (c__law_well : CalT P w K mg base 2 "_law_well" 2 F__law_well) (c_fewest : CalT P w K mg base 16 "fewest" 2 F_fewest) (c_fewest_table : CalT P w K mg base 16 "fewest_table" 1 F_fewest_table) (kw_fewest_0_n_coins : CalKT P w K mg base 16 "fewest" 2 F_fewest 0 ["n", "coins"] [1, 0]) (kw_fewest_table_0_coins : CalKT P w K mg base 16 "fewest_table" 1 F_fewest_table 0 ["coins"] [0]) (F : Fun K "law" "law" st_law f fd) : FnG P w K mg base (L2.CX P w) 18 f fd ["script"] (spG K mg 1 F_law) := by
  refine fn_okG (m := m_law) F sc_law fun cdv A outer s H E gd => ?_
  have nd := sc_law.nd
  have tk : Takes (cxOf (L2.CX P w) P w K mg base N_law "law" (defScope st_law) f cdv A outer s H E) (fun cls d _ H => E cls d H) := takes_of rfl rfl rfl rfl
  unfold m_law
  exact (dss_cons (ds_for [] (passes_of rfl) rfl (di_range1 T.n_range (da_cons (de_bfn (call_max2 rfl) max2D_ok T.n_max (by rfl) (da_cons de_int (da_cons (de_bfn (call_min2 rfl) min2D_ok T.n_min (by rfl) (da_cons de_int (da_cons (de_bf1 call_len lenD_ok T.n_len (by rfl) (de_var (pv 0)).toB) da_nil))) da_nil))) da_nil) (LenM.cons LenM.nil)) (pg_name (i := 1) nd rfl (by first | exact Or.inl rfl | exact Or.inr rfl)) gok_name (dss_cons (ds_setL (i := 2) nd rfl (by first | exact Or.inl rfl | exact Or.inr rfl) (df_call ⟨c__law_well.ex⟩ (gd.mono (by decide)) tk (by rfl) (da_cons (de_var (pv 0)) (da_cons (de_var (pv 1)) da_nil)) (LenM.cons (LenM.cons LenM.nil))))
    (dss_cons (ds_set (i := 3) nd rfl (by first | exact Or.inl rfl | exact Or.inr rfl) (de_callI ⟨c__law_coins.ex⟩ (gd.mono (by decide)) tk (by rfl) (pv 2) da_nil LenM.nil rfl))
    (dss_cons (ds_set (i := 4) nd rfl (by first | exact Or.inl rfl | exact Or.inr rfl) (de_ix ix_seq ixD_ok (de_var (pv 3)) (de_neg de_int) (fun _ _ => rfl)))
    (dss_cons (ds_set (i := 5) nd rfl (by first | exact Or.inl rfl | exact Or.inr rfl) (de_call ⟨c__law_fewest.ex⟩ (gd.mono (by decide)) tk (by rfl) (da_cons (de_var (pv 3)) (da_cons (de_op op_addA addD_ok (de_op op_mulA mulD_ok (de_op op_sub subD_ok (de_var (pv 4)) de_int) (de_op op_sub subD_ok (de_var (pv 4)) de_int)) (de_op op_mulA mulD_ok de_int (de_var (pv 4)))) da_nil)) (LenM.cons (LenM.cons LenM.nil))))
    (dss_cons (ds_for [] (passes_of rfl) rfl (di_val (df_lst (da_cons de_int (da_cons de_int (da_cons (de_callI ⟨c__law_draw.ex⟩ (gd.mono (by decide)) tk (by rfl) (pv 2) (da_cons de_int da_nil) (LenM.cons LenM.nil) rfl) (da_cons (de_callI ⟨c__law_draw.ex⟩ (gd.mono (by decide)) tk (by rfl) (pv 2) (da_cons (de_bf1 call_len lenD_ok T.n_len (by rfl) (de_var (pv 5)).toB) da_nil) (LenM.cons LenM.nil) rfl) (da_cons (de_op op_sub subD_ok (de_bf1 call_len lenD_ok T.n_len (by rfl) (de_var (pv 5)).toB) de_int) da_nil)))))).toE) (pg_name (i := 6) nd rfl (by first | exact Or.inl rfl | exact Or.inr rfl)) gok_name (dss_cons (ds_set (i := 9) nd rfl (by first | exact Or.inl rfl | exact Or.inr rfl) (de_if (dt_cmpB op_lt ltB_ok (de_var (pv 6)) (de_bf1 call_len lenD_ok T.n_len (by rfl) (de_var (pv 5)).toB).toB (nomark _)) (de_ix ix_seq ixD_ok (de_var (pv 5)) (de_var (pv 6)) (fun _ _ => rfl)) (de_ix ix_seq ixD_ok (de_call ⟨c__law_fewest.ex⟩ (gd.mono (by decide)) tk (by rfl) (da_cons (de_var (pv 3)) (da_cons (de_var (pv 6)) da_nil)) (LenM.cons (LenM.cons LenM.nil))) (de_var (pv 6)) (fun _ _ => rfl))))
    (dss_one (ds_if (dt_cmpB (op_neK gd) neB_ok (de_bf1 (call_reprD gd) reprD_ok T.n_repr (by rfl) (df_lst (da_cons (de_call ⟨c_fewest.ex⟩ (gd.mono (by decide)) tk (by rfl) (da_cons (de_var (pv 3)) (da_cons (de_var (pv 6)) da_nil)) (LenM.cons (LenM.cons LenM.nil))) (da_cons (de_call_gen (pe_callK0G ⟨kw_fewest_0_n_coins.ex⟩ (gd.mono (by decide)) tk (by rfl) (dk_cons (de_var (pv 6)) (dk_cons (de_var (pv 3)) dk_nil)) (by exact (LenM.cons (LenM.cons LenM.nil)))) (fun _ _ _ h => lenK h)) da_nil))).toE.toB) (de_bf1 (call_reprD gd) reprD_ok T.n_repr (by rfl) (df_lst (da_cons (de_var (pv 9)) (da_cons (de_var (pv 9)) da_nil))).toE.toB).toB (nomark _)) (dss_one (ds_ret de_bl)) dss_nil))))
    (dss_cons (ds_if (dt_cmpB op_notN isnB_ok (de_call ⟨c_fewest.ex⟩ (gd.mono (by decide)) tk (by rfl) (da_cons (de_var (pv 3)) (da_cons (de_op op_sub subD_ok (de_neg de_int) (de_callI ⟨c__law_draw.ex⟩ (gd.mono (by decide)) tk (by rfl) (pv 2) (da_cons de_int da_nil) (LenM.cons LenM.nil) rfl)) da_nil)) (LenM.cons (LenM.cons LenM.nil))) de_non.toB (nomark _)) (dss_one (ds_ret de_bl)) dss_nil)
    (dss_cons (ds_set (i := 7) nd rfl (by first | exact Or.inl rfl | exact Or.inr rfl) (de_op op_addA addD_ok (de_op op_pow powD_ok de_int de_int) (de_callI ⟨c__law_draw.ex⟩ (gd.mono (by decide)) tk (by rfl) (pv 2) (da_cons (de_op op_pow powD_ok de_int de_int) da_nil) (LenM.cons LenM.nil) rfl)))
    (dss_cons (ds_set (i := 8) nd rfl (by first | exact Or.inl rfl | exact Or.inr rfl) (de_op op_fdivA fdivD_ok (de_op op_sub subD_ok (de_var (pv 7)) (de_op op_mulA mulD_ok (de_op op_sub subD_ok (de_var (pv 4)) de_int) (de_op op_sub subD_ok (de_var (pv 4)) de_int))) (de_var (pv 4))))
    (dss_cons (ds_set (i := 9) nd rfl (by first | exact Or.inl rfl | exact Or.inr rfl) (de_ix ix_seq ixD_ok (de_var (pv 5)) (de_op op_sub subD_ok (de_var (pv 7)) (de_op op_mulA mulD_ok (de_var (pv 8)) (de_var (pv 4)))) (fun _ _ => rfl)))
    (dss_cons (ds_if (dt_cmpB (op_neK gd) neB_ok (de_bf1 (call_reprD gd) reprD_ok T.n_repr (by rfl) (de_call ⟨c_fewest.ex⟩ (gd.mono (by decide)) tk (by rfl) (da_cons (de_var (pv 3)) (da_cons (de_var (pv 7)) da_nil)) (LenM.cons (LenM.cons LenM.nil))).toB) (de_bf1 (call_reprD gd) reprD_ok T.n_repr (by rfl) (de_if (dt_cmpB op_isN isB_ok (de_var (pv 9)) de_non.toB (nomark _)) de_non (de_op op_addA addD_ok (de_var (pv 9)) (de_var (pv 8)))).toB).toB (nomark _)) (dss_one (ds_ret de_bl)) dss_nil)
    (dss_cons (ds_if (dw_and (dt_cmpB op_gt gtB_ok (de_ix ix_seq ixD_ok (de_var (pv 3)) de_int (fun _ _ => rfl)) de_int.toB (nomark _)) (dw_and1 (dt_not (dt_val (de_call ⟨c__law_refused.ex⟩ (gd.mono (by decide)) tk (by rfl) (da_cons (de_var (pv 3)) da_nil) (LenM.cons LenM.nil)).toB)))).toT (dss_one (ds_ret de_bl)) dss_nil)
    (dss_cons (ds_set (i := 10) nd rfl (by first | exact Or.inl rfl | exact Or.inr rfl) (de_if (dt_cmpB (op_eqK gd) eqB_ok (de_ix ix_seq ixD_ok (de_var (pv 3)) de_int (fun _ _ => rfl)) de_int.toB (nomark _)) (de_var (pv 3)) (de_ty1 call_tuple_of tupD_ok T.n_tuple (by rfl) (df_bf1 cr_sortedA sortedD_ok T.n_sorted (by rfl) (de_op op_addA addD_ok (de_tup trivial (da_cons de_int da_nil)) (de_sl (de_var (pv 3)) do_none (do_some de_int))).toB).toE.toB)))
    (dss_cons (ds_set (i := 5) nd rfl (by first | exact Or.inl rfl | exact Or.inr rfl) (de_call ⟨c__law_fewest.ex⟩ (gd.mono (by decide)) tk (by rfl) (da_cons (de_var (pv 10)) (da_cons (de_op op_addA addD_ok (de_op op_mulA mulD_ok (de_op op_sub subD_ok (de_ix ix_seq ixD_ok (de_var (pv 10)) (de_neg de_int) (fun _ _ => rfl)) de_int) (de_op op_sub subD_ok (de_ix ix_seq ixD_ok (de_var (pv 10)) (de_neg de_int) (fun _ _ => rfl)) de_int)) (de_op op_mulA mulD_ok de_int (de_ix ix_seq ixD_ok (de_var (pv 10)) (de_neg de_int) (fun _ _ => rfl)))) da_nil)) (LenM.cons (LenM.cons LenM.nil))))
    (dss_cons (ds_set (i := 11) nd rfl (by first | exact Or.inl rfl | exact Or.inr rfl) (de_call ⟨c_fewest_table.ex⟩ (gd.mono (by decide)) tk (by rfl) (da_cons (de_var (pv 10)) da_nil) (LenM.cons LenM.nil)))
    (dss_one (ds_if (dw_or (dt_cmpB (op_neK gd) neB_ok (de_bf1 (call_reprD gd) reprD_ok T.n_repr (by rfl) (de_call_gen (pe_callK0G ⟨kw_fewest_table_0_coins.ex⟩ (gd.mono (by decide)) tk (by rfl) (dk_cons (de_var (pv 10)) dk_nil) (by exact (LenM.cons LenM.nil))) (fun _ _ _ h => lenK h)).toB) (de_bf1 (call_reprD gd) reprD_ok T.n_repr (by rfl) (de_var (pv 11)).toB).toB (nomark _)) (dw_or1 (dt_not (dt_val (de_call ⟨c__law_is_table.ex⟩ (gd.mono (by decide)) tk (by rfl) (da_cons (de_var (pv 11)) (da_cons (de_var (pv 10)) (da_cons (de_var (pv 5)) da_nil))) (LenM.cons (LenM.cons (LenM.cons LenM.nil)))).toB)))).toT (dss_one (ds_ret de_bl)) dss_nil)))))))))))))))))
    (dss_one (ds_ret de_bl)))
end
end G44
end
section
set_option Elab.async false
set_option linter.all false
set_option maxRecDepth 100000
namespace L2.DL
open PySem
set_option autoImplicit false
/-! ### running a plain program, big step by big step -/
section
variable {α β : Type} {η η1 η2 η3 : EnvD} {x y z d : PyData} {xs ys ds : List PyData} {b c : Bool} {i j : Nat} {ma mb mc m : MX PyData} {ml mk : MX (List PyData)} {mt mu : MX Bool} {r : R β}
theorem e_pure {a : α} : mPure a η = some (.ok a, η) := rfl
theorem e_bind {m : MX α} {k : α → MX β} {a : α} {o : Option (R β × EnvD)} (h : m η = some (.ok a, η1)) (h2 : k a η1 = o) : mBind m k η = o := by unfold mBind; rw [h]; exact h2
theorem e_lift {o : Option α} {a : α} (h : o = some a) : mLift o η = some (.ok a, η) := by unfold mLift; rw [h]
theorem e_op {g : PyData → PyData → Option PyData} (ha : ma η = some (.ok x, η1)) (hb : mb η1 = some (.ok y, η2)) (hg : g x y = some z) : mOp g ma mb η = some (.ok z, η2) := e_bind ha (e_bind hb (e_lift hg))
theorem e_opL {g : PyData → PyData → Option (List PyData)} (ha : ma η = some (.ok x, η1)) (hb : mb η1 = some (.ok y, η2)) (hg : g x y = some ds) : mOpL g ma mb η = some (.ok ds, η2) := e_bind ha (e_bind hb (e_lift hg))
theorem e_un {g : PyData → Option PyData} (ha : ma η = some (.ok x, η1)) (hg : g x = some z) : mUn g ma η = some (.ok z, η1) := e_bind ha (e_lift hg)
theorem e_unL {g : PyData → Option (List PyData)} (ha : ma η = some (.ok x, η1)) (hg : g x = some ds) : mUnL g ma η = some (.ok ds, η1) := e_bind ha (e_lift hg)
theorem e_tru {g : PyData → Option Bool} (ha : ma η = some (.ok x, η1)) (hg : g x = some b) : mTru g ma η = some (.ok b, η1) := e_bind ha (e_lift hg)
theorem e_fz (h : ml η = some (.ok ds, η1)) : mFz ml η = some (.ok (.list ds), η1) := e_bind h e_pure
theorem e_var (h : η[i]? = some (some (.val d))) : mVar i η = some (.ok d, η) := by unfold mVar; rw [h]
theorem e_varO (h : η[i]? = some (some (.own false ds))) : mVar i η = some (.ok (.list ds), η.set i (some (.val (.list ds)))) := by unfold mVar; rw [h]
theorem e_bor (h : η[i]? = some (some (.val d))) : mBor i η = some (.ok d, η) := by unfold mBor; rw [h]
theorem e_borO {o : Bool} (h : η[i]? = some (some (.own o ds))) : mBor i η = some (.ok (.list ds), η) := by unfold mBor; rw [h]
theorem e_again {k : PyData → MX α} {o : Option (R α × EnvD)} (h : mBor i η = some (.ok d, η)) (h2 : k d η = o) : mAgain i k η = o := by unfold mAgain; rw [h]; exact h2
theorem e_opV {g : PyData → PyData → Option PyData} (h1 : mBor i η = some (.ok d, η)) (hb : mb η = some (.ok y, η1)) (h2 : mBor i η1 = some (.ok x, η1)) (hg : g x y = some z) : mOpV g i mb η = some (.ok z, η1) := e_again h1 (e_bind hb (e_again h2 (e_lift hg)))
theorem e_nil : mNil η = some (.ok [], η) := rfl
theorem e_cons (h : m η = some (.ok x, η1)) (h2 : ml η1 = some (.ok xs, η2)) : mCons m ml η = some (.ok (x :: xs), η2) := e_bind h (e_bind h2 e_pure)
theorem e_ca {g : List PyData → Option PyData} (h : ml η = some (.ok xs, η1)) (hg : g xs = some z) : mCa g ml η = some (.ok z, η1) := e_bind h (e_lift hg)
theorem e_caL {g : List PyData → Option (List PyData)} (h : ml η = some (.ok xs, η1)) (hg : g xs = some ds) : mCaL g ml η = some (.ok ds, η1) := e_bind h (e_lift hg)
theorem e_gIt {g : List PyData → Option (List PyData)} (h : ml η = some (.ok xs, η1)) (hg : g xs = some ds) : gIt g ml η = some (.ok ds, η1) := e_bind h (e_lift hg)
theorem e_iter (h : m η = some (.ok x, η1)) (hg : itemsD x = some ds) : mIter m η = some (.ok ds, η1) := e_bind h (e_lift hg)
theorem e_call {f : List PyData → Option (R RV)} {rv : RV} (h : ml η = some (.ok xs, η1)) (hf : f xs = some (.ok rv)) : mCall f ml η = some (.ok rv.val, η1) := e_bind h (by rw [hf])
theorem e_callL {f : List PyData → Option (R RV)} (h : ml η = some (.ok xs, η1)) (hf : f xs = some (.ok (.l ds))) : mCallL f ml η = some (.ok ds, η1) := e_bind h (by rw [hf])
theorem e_callX {f : List PyData → Option (R RV)} {nm : Str} (h : ml η = some (.ok xs, η1)) (hf : f xs = some (.exc nm d)) : mCall f ml η = some (.exc nm d, η1) := e_bind h (by rw [hf])
theorem e_callI' {F : FS} {o o' : Bool} {rv : RV} (h0 : η[i]? = some (some (.own o ds))) (h : ml η = some (.ok xs, η1)) (h1 : η1[i]? = some (some (.own o' ys))) {zs : List PyData} (hf : fnI F ys xs = some (.ok (rv, zs))) : mCallI' F i ml η = some (.ok rv, η1.set i (some (.own o' zs))) := by
  unfold mCallI'
  rw [h0]
  refine e_bind h ?_
  simp only [h1, hf]
theorem e_callI {F : FS} {o o' : Bool} {rv : RV} (h0 : η[i]? = some (some (.own o ds))) (h : ml η = some (.ok xs, η1)) (h1 : η1[i]? = some (some (.own o' ys))) {zs : List PyData} (hf : fnI F ys xs = some (.ok (rv, zs))) : mCallI F i ml η = some (.ok rv.val, η1.set i (some (.own o' zs))) := e_bind (e_callI' h0 h h1 hf) e_pure
theorem e_argsK {pick : List Nat} (h : ml η = some (.ok xs, η1)) (h2 : mk η1 = some (.ok ys, η2)) : mArgsK pick ml mk η = some (.ok (pickL .none pick (xs ++ ys)), η2) := e_bind h (e_bind h2 e_pure)
theorem e_partN : (mPure none : MX (Option Int)) η = some (.ok none, η) := rfl
theorem e_part {k : Int} (h : m η = some (.ok (.int k), η1)) : mPart m η = some (.ok (some k), η1) := e_bind h e_pure
theorem e_sl {g : PyData → Option Int → Option Int → Option α} {l u : Option Int} {mlo mhi : MX (Option Int)} {a : α} (h : m η = some (.ok x, η1)) (h1 : mlo η1 = some (.ok l, η2)) (h2 : mhi η2 = some (.ok u, η3)) (hg : g x l u = some a) : mSl g m mlo mhi η = some (.ok a, η3) := e_bind h (e_bind h1 (e_bind h2 (e_lift hg)))
theorem e_slV {g : PyData → Option Int → Option Int → Option α} {l u : Option Int} {mlo mhi : MX (Option Int)} {a : α} (h : mBor i η = some (.ok x, η)) (h1 : mlo η = some (.ok l, η1)) (h2 : mhi η1 = some (.ok u, η2)) (h3 : mBor i η2 = some (.ok y, η2)) (hg : g y l u = some a) : mSlV g i mlo mhi η = some (.ok a, η2) := e_again h (e_bind h1 (e_bind h2 (e_again h3 (e_lift hg))))
/-! tests -/
theorem e_notT (h : mt η = some (.ok b, η1)) : mNot mt η = some (.ok (!b), η1) := e_bind h e_pure
theorem e_andT (h : mt η = some (.ok b, η1)) (hb : b = true) {o : Option (R Bool × EnvD)} (h2 : mu η1 = o) : mAnd mt mu η = o := e_bind h (by rw [if_pos hb]; exact h2)
theorem e_andF (h : mt η = some (.ok b, η1)) (hb : b = false) : mAnd mt mu η = some (.ok false, η1) := e_bind h (by rw [hb, if_neg Bool.false_ne_true]; rfl)
theorem e_orT (h : mt η = some (.ok b, η1)) (hb : b = true) : mOr mt mu η = some (.ok true, η1) := e_bind h (by rw [if_pos hb]; rfl)
theorem e_orF (h : mt η = some (.ok b, η1)) (hb : b = false) {o : Option (R Bool × EnvD)} (h2 : mu η1 = o) : mOr mt mu η = o := e_bind h (by rw [hb, if_neg Bool.false_ne_true]; exact h2)
/-- both parts may be asked: the slots stand -/
theorem e_andB (h : mt η = some (.ok b, η)) (h2 : mu η = some (.ok c, η)) : mAnd mt mu η = some (.ok (b && c), η) := e_bind h (by cases b <;> simp [h2, mPure])
theorem e_orB (h : mt η = some (.ok b, η)) (h2 : mu η = some (.ok c, η)) : mOr mt mu η = some (.ok (b || c), η) := e_bind h (by cases b <;> simp [h2, mPure])
theorem e_ifT {mx my : MX α} {o : Option (R α × EnvD)} (h : mt η = some (.ok b, η1)) (hb : b = true) (h2 : mx η1 = o) : mIf mt mx my η = o := e_bind h (by rw [if_pos hb]; exact h2)
theorem e_ifF {mx my : MX α} {o : Option (R α × EnvD)} (h : mt η = some (.ok b, η1)) (hb : b = false) (h2 : my η1 = o) : mIf mt mx my η = o := e_bind h (by rw [hb, if_neg Bool.false_ne_true]; exact h2)
theorem e_ifB {mx my : MX α} {a a' : α} (h : mt η = some (.ok b, η1)) (h2 : mx η1 = some (.ok a, η2)) (h3 : my η1 = some (.ok a', η2)) : mIf mt mx my η = some (.ok (if b = true then a else a'), η2) := e_bind h (by cases b <;> simp [h2, h3])
theorem e_andVT (h : ma η = some (.ok (.bool b), η1)) (hb : b = true) {o : Option (R PyData × EnvD)} (h2 : mb η1 = o) : mAndV ma mb η = o := e_bind h (by rw [hb]; exact h2)
theorem e_andVF (h : ma η = some (.ok (.bool b), η1)) (hb : b = false) : mAndV ma mb η = some (.ok (.bool false), η1) := e_bind h (by rw [hb]; rfl)
theorem e_andVB (h : ma η = some (.ok (.bool b), η)) (h2 : mb η = some (.ok (.bool c), η)) : mAndV ma mb η = some (.ok (.bool (b && c)), η) := e_bind h (by cases b <;> simp [h2, mPure])
theorem e_orVT (h : ma η = some (.ok (.bool b), η1)) (hb : b = true) : mOrV ma mb η = some (.ok (.bool true), η1) := e_bind h (by rw [hb]; rfl)
theorem e_orVF (h : ma η = some (.ok (.bool b), η1)) (hb : b = false) {o : Option (R PyData × EnvD)} (h2 : mb η1 = o) : mOrV ma mb η = o := e_bind h (by rw [hb]; exact h2)
theorem e_notV (h : ma η = some (.ok (.bool b), η1)) : mNotV ma η = some (.ok (.bool (!b)), η1) := e_bind h rfl
theorem e_chainT {g g' : PyData → PyData → Option PyData} (h1 : ma η = some (.ok x, η1)) (h2 : mb η1 = some (.ok y, η2)) (hg : g x y = some (.bool b)) (hb : b = true) (h3 : mc η2 = some (.ok z, η3)) (hg' : g' y z = some d) : mChain g g' ma mb mc η = some (.ok d, η3) :=
  e_bind h1 (e_bind h2 (e_bind (e_lift hg) (by subst hb; exact e_bind h3 (e_lift hg'))))
theorem e_chainF {g g' : PyData → PyData → Option PyData} (h1 : ma η = some (.ok x, η1)) (h2 : mb η1 = some (.ok y, η2)) (hg : g x y = some (.bool b)) (hb : b = false) : mChain g g' ma mb mc η = some (.ok (.bool false), η2) :=
  e_bind h1 (e_bind h2 (e_bind (e_lift hg) (by subst hb; rfl)))
theorem e_chainB {g g' : PyData → PyData → Option PyData} (h1 : ma η = some (.ok x, η1)) (h2 : mb η1 = some (.ok y, η2)) (hg : g x y = some (.bool b)) (h3 : mc η2 = some (.ok z, η2)) (hg' : g' y z = some (.bool c)) : mChain g g' ma mb mc η = some (.ok (.bool (b && c)), η2) :=
  e_bind h1 (e_bind h2 (e_bind (e_lift hg) (by cases b; rfl; exact e_bind h3 (e_lift (by rw [hg']; rfl)))))
/-! statements -/
variable {fl fl2 : Fl} {ms mr : MX Fl} {gm : PyData → EnvD → Option EnvD}
theorem s_seq {o : Option (R Fl × EnvD)} (h : ms η = some (.ok .nx, η1)) (h2 : mr η1 = o) : mSeq ms mr η = o := e_bind h h2
theorem s_seqR {rv : RV} (h : ms η = some (.ok (.rt rv), η1)) : mSeq ms mr η = some (.ok (.rt rv), η1) := e_bind h rfl
theorem s_seqB (h : ms η = some (.ok .bk, η1)) : mSeq ms mr η = some (.ok .bk, η1) := e_bind h rfl
theorem s_seqC (h : ms η = some (.ok .ct, η1)) : mSeq ms mr η = some (.ok .ct, η1) := e_bind h rfl
theorem s_seqX {nm : Str} (h : ms η = some (.exc nm d, η1)) : mSeq ms mr η = some (.exc nm d, η1) := by unfold mSeq mBind; rw [h]
theorem s_asg (h : m η = some (.ok x, η1)) (h2 : gm x η1 = some η2) : mAsg m gm η = some (.ok .nx, η2) := e_bind h (by rw [h2])
theorem s_asgL (h : ml η = some (.ok xs, η1)) (h2 : stO i (.own false xs) η1 = some η2) : mAsgL ml i η = some (.ok .nx, η2) := e_bind h (by rw [h2])
theorem s_drop (h : m η = some (.ok x, η1)) : mDrop m η = some (.ok .nx, η1) := e_bind h rfl
theorem s_dropX {nm : Str} (h : m η = some (.exc nm d, η1)) : mDrop m η = some (.exc nm d, η1) := by unfold mDrop mBind; rw [h]
theorem s_ret (h : m η = some (.ok x, η1)) : mRet m η = some (.ok (.rt (.d x)), η1) := e_bind h rfl
theorem s_retX {nm : Str} (h : m η = some (.exc nm d, η1)) : mRet m η = some (.exc nm d, η1) := by unfold mRet mBind; rw [h]
theorem s_retL (h : ml η = some (.ok xs, η1)) : mRetL ml η = some (.ok (.rt (.l xs)), η1) := e_bind h rfl
theorem s_retV (h : η[i]? = some (some (.val d))) : mRetV i η = some (.ok (.rt (.d d)), η) := by unfold mRetV; rw [h]
theorem s_retVO (h : η[i]? = some (some (.own false ds))) : mRetV i η = some (.ok (.rt (.l ds)), η.set i none) := by unfold mRetV; rw [h]
theorem s_ifT {o : Option (R Fl × EnvD)} (h : mt η = some (.ok b, η1)) (hb : b = true) (h2 : ms η1 = o) : mIfS mt ms mr η = o := e_bind h (by rw [if_pos hb]; exact h2)
theorem s_ifF {o : Option (R Fl × EnvD)} (h : mt η = some (.ok b, η1)) (hb : b = false) (h2 : mr η1 = o) : mIfS mt ms mr η = o := e_bind h (by rw [hb, if_neg Bool.false_ne_true]; exact h2)
theorem s_raise {nm : Str} (h : m η = some (.ok x, η1)) : mRaise nm m η = some (.exc nm x, η1) := e_bind h rfl
theorem s_for {mi : MX (List PyData)} {fg : List Nat} {o : Option (R Fl × EnvD)} (h : mi η = some (.ok xs, η1)) (h2 : loopM gm ms fg xs η1 = o) : mFor mi gm ms fg η = o := e_bind h h2
theorem s_setIx {o o' : Bool} {k : Int} {n : Nat} {mi : MX PyData} (h : m η = some (.ok d, η1)) (h0 : η1[i]? = some (some (.own o ds))) (hi : mi η1 = some (.ok (.int k), η2)) (h1 : η2[i]? = some (some (.own o' ys))) (hn : ixN ys.length k = some n) : mSetIx i m mi η = some (.ok .nx, η2.set i (some (.own o' (ys.set n d)))) := by
  refine e_bind h ?_
  rw [h0]
  refine e_bind hi ?_
  simp only [h1, hn]
theorem s_aug {f : Int → Int → Int} {u v : Int} (h0 : η[i]? = some (some (.val (.int u)))) (h : m η = some (.ok (.int v), η1)) (h2 : stO i (.val (.int (f u v))) η1 = some η2) : mAug f i m η = some (.ok .nx, η2) := by
  unfold mAug
  rw [h0]
  exact e_bind h (by simp only [h2])
theorem s_par (h : ml η = some (.ok [x, y], η1)) (h2 : (stO i (.val x) η1).bind (stO j (.val y)) = some η2) : mPar i j ml η = some (.ok .nx, η2) := e_bind h (by simp only [h2])
theorem e_meth {f : List PyData → List PyData → Option (PyData × List PyData)} {o o' : Bool} {zs : List PyData} (h0 : η[i]? = some (some (.own o ds))) (h : ml η = some (.ok xs, η1)) (h1 : η1[i]? = some (some (.own o' ys))) (hf : f ys xs = some (z, zs)) : mMeth f i ml η = some (.ok z, η1.set i (some (.own o' zs))) := by
  unfold mMeth
  rw [h0]
  refine e_bind h ?_
  simp only [h1, hf]
theorem f_runR {N n : Nat} {args : EnvD} {rv : RV} (hl : args.length = n) (ha : args.all okA = true) (hn : n ≤ N) (h : ms (args ++ List.replicate (N - n) none) = some (.ok (.rt rv), η1)) : runF N n ms args = some (.ok rv, maskE n η1) := by
  unfold runF; rw [if_pos ⟨hl, ha, hn⟩, h]
theorem f_runN {N n : Nat} {args : EnvD} (hl : args.length = n) (ha : args.all okA = true) (hn : n ≤ N) (h : ms (args ++ List.replicate (N - n) none) = some (.ok .nx, η1)) : runF N n ms args = some (.ok (.d .none), maskE n η1) := by
  unfold runF; rw [if_pos ⟨hl, ha, hn⟩, h]
theorem f_runX {N n : Nat} {args : EnvD} {nm : Str} (hl : args.length = n) (ha : args.all okA = true) (hn : n ≤ N) (h : ms (args ++ List.replicate (N - n) none) = some (.exc nm d, η1)) : runF N n ms args = some (.exc nm d, maskE n η1) := by
  unfold runF; rw [if_pos ⟨hl, ha, hn⟩, h]
theorem fnV_of {F : FS} {o : R RV} (h : F (valsE ds) = some (o, η1)) : fnV F ds = some o := by unfold fnV; rw [h]; rfl
theorem fnI_of {F : FS} {rv : RV} {tl : EnvD} (h : F (some (.own true xs) :: valsE ds) = some (.ok rv, some (.own true ys) :: tl)) : fnI F xs ds = some (.ok (rv, ys)) := by unfold fnI; rw [h]
/-! loops -/
theorem loop_nil {fg : List Nat} : loopM gm ms fg [] η = some (.ok .nx, η) := rfl
theorem loop_cons {fg : List Nat} {o : Option (R Fl × EnvD)} (h : gm x η = some η1) (h2 : ms η1 = some (.ok .nx, η2)) (h3 : loopM gm ms fg xs (forget fg η2) = o) : loopM gm ms fg (x :: xs) η = o := by simp only [loopM, h, h2]; exact h3
theorem loop_consR {fg : List Nat} {rv : RV} (h : gm x η = some η1) (h2 : ms η1 = some (.ok (.rt rv), η2)) : loopM gm ms fg (x :: xs) η = some (.ok (.rt rv), η2) := by simp only [loopM, h, h2]
/-- an invariant: behind i turns -/
theorem loop_inv (I : Nat → EnvD → Prop) (step : ∀ k x η, xs[k]? = some x → I k η → ∃ η1 η2, gm x η = some η1 ∧ ms η1 = some (.ok .nx, η2) ∧ I (k + 1) η2) : ∀ {η : EnvD}, I 0 η → ∃ η', loopM gm ms [] xs η = some (.ok .nx, η') ∧ I xs.length η' := by
  suffices h : ∀ (n k : Nat) (η : EnvD), xs.length - k = n → k ≤ xs.length → I k η → ∃ η', loopM gm ms [] (xs.drop k) η = some (.ok .nx, η') ∧ I xs.length η' by
    intro η h0
    have := h xs.length 0 η (by omega) (by omega) h0
    simpa using this
  intro n
  induction n with
  | zero =>
    intro k η hn hk hI
    have e : k = xs.length := by omega
    subst e
    exact ⟨η, by rw [List.drop_length]; rfl, hI⟩
  | succ n ih =>
    intro k η hn hk hI
    have hlt : k < xs.length := by omega
    obtain ⟨η1, η2, e1, e2, e3⟩ := step k _ η (List.getElem?_eq_getElem hlt) hI
    obtain ⟨η', e4, e5⟩ := ih (k + 1) η2 (by omega) (by omega) e3
    refine ⟨η', ?_, e5⟩
    rw [List.drop_eq_getElem_cons hlt]
    exact loop_cons e1 e2 e4
/-- a comprehension over items, each kept or not, the slots alike behind each turn -/
theorem comp_map {vs : List Nat} {f : PyData → Option PyData} (hη : wipeE vs η = η) : ∀ (items acc : List PyData), acc.length + items.length ≤ sizeLine → (∀ x ∈ items, ∃ η1, gm x η = some η1 ∧ ((∃ η2 y, f x = some y ∧ mt η1 = some (.ok true, η2) ∧ ∃ η3, m η2 = some (.ok y, η3) ∧ wipeE vs η3 = η) ∨ (f x = none ∧ ∃ η2, mt η1 = some (.ok false, η2) ∧ wipeE vs η2 = η))) →
    compM gm mt m vs items acc η = some (.ok (acc ++ items.filterMap f), η)
  | [], acc, _, _ => by simp [compM, mPure]
  | x :: xs, acc, hl, h => by
    rw [List.length_cons] at hl
    obtain ⟨η1, e1, h1⟩ := h x List.mem_cons_self
    have ih := fun acc hl => comp_map (vs := vs) (f := f) hη xs acc hl fun y hy => h y (List.mem_cons_of_mem _ hy)
    simp only [compM, e1]
    rcases h1 with ⟨η2, y, ef, e2, η3, e3, e4⟩ | ⟨ef, η2, e2, e3⟩
    · simp only [e2, e3, e4]
      rw [if_pos (by omega), ih _ (by simp; omega)]
      simp [List.filterMap_cons, ef]
    · simp only [e2, e3]
      rw [ih _ (by omega)]
      simp [List.filterMap_cons, ef]
theorem e_comp {mi : MX (List PyData)} {vs : List Nat} {o : Option (R (List PyData) × EnvD)} (h : mi η = some (.ok xs, η1)) (h2 : compM gm mt m vs xs [] (wipeE vs η1) = o) : mComp mi gm mt m vs η = o := e_bind h h2
end
/-! ### the operators on ints -/
theorem addD_e {i j : Int} : addD (.int i) (.int j) = some (.int (i + j)) := rfl
theorem subD_e {i j : Int} : subD (.int i) (.int j) = some (.int (i - j)) := rfl
theorem negD_e {i : Int} : negD (.int i) = some (.int (-i)) := rfl
theorem mulD_r {i j : Int} (h : -18446744073709551616 < j ∧ j < 18446744073709551616) : mulD (.int i) (.int j) = some (.int (i * j)) := if_pos (.inl (.inr (by simpa using h)))
theorem mulD_l {i j : Int} (h : -18446744073709551616 < i ∧ i < 18446744073709551616) : mulD (.int i) (.int j) = some (.int (i * j)) := if_pos (.inl (.inl (by simpa using h)))
theorem log_lt {n k : Nat} (h : n < 2 ^ k) (hk : 0 < k) : n.log2 < k := by
  by_cases h0 : n = 0
  · subst h0; simpa using hk
  · exact (Nat.log2_lt h0).mpr h
theorem mulD_w {i j : Int} (h1 : i.natAbs < 2 ^ 400) (h2 : j.natAbs < 2 ^ 400) : mulD (.int i) (.int j) = some (.int (i * j)) := if_pos (.inr (by
  have a := log_lt h1 (by decide)
  have b := log_lt h2 (by decide)
  unfold CMulW
  omega))
theorem modD_e {i j : Int} (h : 0 < j) : modD (.int i) (.int j) = some (.int (i % j)) := by
  have e : i.fmod j = i % j := Int.fmod_eq_emod_of_nonneg i (by omega)
  rw [← e]
  exact if_pos (by omega)
theorem fdivD_e {i j : Int} (h : 0 < j) (h2 : j < 2 ^ 400) : fdivD (.int i) (.int j) = some (.int (i / j)) := by
  have e : i.fdiv j = i / j := Int.fdiv_eq_ediv_of_nonneg i (by omega)
  rw [← e]
  have l := log_lt (n := j.natAbs) (k := 400) (by omega) (by decide)
  exact if_pos (.inr ⟨h, by omega⟩)
theorem ltD_e {i j : Int} : ltD (.int i) (.int j) = some (.bool (decide (i < j))) := rfl
theorem leD_e {i j : Int} : leD (.int i) (.int j) = some (.bool (decide (i ≤ j))) := rfl
theorem gtD_e {i j : Int} : gtD (.int i) (.int j) = some (.bool (decide (j < i))) := rfl
theorem geD_e {i j : Int} : geD (.int i) (.int j) = some (.bool (decide (j ≤ i))) := rfl
theorem boolD_e {b : Bool} : boolD (.bool b) = some b := rfl
theorem pow2D_e {i : Int} (h : i.natAbs < 2 ^ 64) : powD (.int i) (.int 2) = some (.int (i * i)) := by
  have e : i ^ (2 : Int).toNat = i * i := by show i ^ 2 = _; rw [Int.pow_succ, Int.pow_succ, Int.pow_zero, Int.one_mul]
  rw [← e]
  exact if_pos ⟨by decide, by decide, h⟩
theorem powD_k {i j k : Int} (h : CPow i j) (e : i ^ j.toNat = k) : powD (.int i) (.int j) = some (.int k) := by rw [← e]; exact if_pos h
theorem p10_12 : powD (.int 10) (.int 12) = some (.int 1000000000000) := powD_k (by decide) (by decide)
theorem p10_18 : powD (.int 10) (.int 18) = some (.int 1000000000000000000) := powD_k (by decide) (by decide)
theorem p10_19 : powD (.int 10) (.int 19) = some (.int 10000000000000000000) := powD_k (by decide) (by decide)
theorem p10_25 : powD (.int 10) (.int 25) = some (.int 10000000000000000000000000) := powD_k (by decide) (by decide)
theorem p10_28 : powD (.int 10) (.int 28) = some (.int 10000000000000000000000000000) := powD_k (by decide) (by decide)
theorem p10_29 : powD (.int 10) (.int 29) = some (.int 100000000000000000000000000000) := powD_k (by decide) (by decide)
theorem p10_31 : powD (.int 10) (.int 31) = some (.int 10000000000000000000000000000000) := powD_k (by decide) (by decide)
theorem p10_33 : powD (.int 10) (.int 33) = some (.int 1000000000000000000000000000000000) := powD_k (by decide) (by decide)
theorem ixD_l {ds : List PyData} {k : Nat} {z : PyData} (h : ds[k]? = some z) : ixD (.list ds) (.int (k : Nat)) = some z := by
  have hl := (List.getElem?_eq_some_iff.mp h).1
  show atI ds (k : Int) = some z
  unfold atI ixN
  rw [if_pos (by omega), if_pos (by omega)]
  simpa using h
theorem ixD_t {ds : List PyData} {k : Nat} {z : PyData} (h : ds[k]? = some z) : ixD (.tuple ds) (.int (k : Nat)) = some z := by
  have hl := (List.getElem?_eq_some_iff.mp h).1
  show atI ds (k : Int) = some z
  unfold atI ixN
  rw [if_pos (by omega), if_pos (by omega)]
  simpa using h
/-- what stands at an int's place -/
theorem ixD_i {ds : List PyData} {k : Int} {z : PyData} (h0 : 0 ≤ k) (h : ds[k.toNat]? = some z) : ixD (.list ds) (.int k) = some z := by
  have := ixD_l (ds := ds) (k := k.toNat) h
  rwa [Int.toNat_of_nonneg h0] at this
end L2.DL
end
section
set_option Elab.async false
set_option linter.all false
set_option maxRecDepth 100000
namespace L2.DL
open PySem
set_option autoImplicit false
section
variable {η1 : EnvD} {d : PyData} {ms : MX Fl}
theorem runR {N n : Nat} {args : EnvD} {rv : RV} {o : Option (R RV × EnvD)} (hl : args.length = n) (ha : args.all okA = true) (hn : n ≤ N) (h : ms (args ++ List.replicate (N - n) none) = some (.ok (.rt rv), η1)) (he : some (R.ok rv, maskE n η1) = o) : runF N n ms args = o := (f_runR hl ha hn h).trans he
theorem runN {N n : Nat} {args : EnvD} {o : Option (R RV × EnvD)} (hl : args.length = n) (ha : args.all okA = true) (hn : n ≤ N) (h : ms (args ++ List.replicate (N - n) none) = some (.ok .nx, η1)) (he : some (R.ok (.d .none), maskE n η1) = o) : runF N n ms args = o := (f_runN hl ha hn h).trans he
theorem runX {N n : Nat} {args : EnvD} {nm : Str} {o : Option (R RV × EnvD)} (hl : args.length = n) (ha : args.all okA = true) (hn : n ≤ N) (h : ms (args ++ List.replicate (N - n) none) = some (.exc nm d, η1)) (he : some (R.exc nm d, maskE n η1) = o) : runF N n ms args = o := (f_runX hl ha hn h).trans he
end
end L2.DL
end
local macro_rules | `(tactic| walk_at "dl evd") => `(tactic| first
    | exact L2.DL.addD_e | exact L2.DL.subD_e | exact L2.DL.negD_e | exact L2.DL.ltD_e | exact L2.DL.leD_e | exact L2.DL.gtD_e | exact L2.DL.geD_e | exact L2.DL.boolD_e
    | exact L2.DL.modD_e (by omega) | exact L2.DL.fdivD_e (by omega) (by omega) | exact L2.DL.mulD_r (by omega) | exact L2.DL.mulD_l (by omega)
    | exact L2.DL.p10_12 | exact L2.DL.p10_18 | exact L2.DL.p10_19 | exact L2.DL.p10_25 | exact L2.DL.p10_28 | exact L2.DL.p10_29 | exact L2.DL.p10_31 | exact L2.DL.p10_33
    | rfl | assumption
    | exact L2.DL.mulD_w (by omega) (by omega) | exact L2.DL.pow2D_e (by omega))
local macro_rules | `(tactic| walk_at "dl evs") => `(tactic| first | rfl | assumption)
local macro_rules | `(tactic| walk_at "dl ev") => `(tactic| first
    | assumption
    | (with_reducible exact L2.DL.e_pure)
    | (with_reducible exact L2.DL.e_nil)
    | ((with_reducible apply L2.DL.e_op); (focus (walk_at "dl ev")); (focus (walk_at "dl ev")); (focus (walk_at "dl evd")))
    | ((with_reducible apply L2.DL.e_un); (focus (walk_at "dl ev")); (focus (walk_at "dl evd")))
    | ((with_reducible apply L2.DL.e_var); (walk_at "dl evs")) | ((with_reducible apply L2.DL.e_varO); (walk_at "dl evs")) | ((with_reducible apply L2.DL.e_bor); (walk_at "dl evs")) | ((with_reducible apply L2.DL.e_borO); (walk_at "dl evs"))
    | ((with_reducible apply L2.DL.e_opV); (focus (walk_at "dl ev")); (focus (walk_at "dl ev")); (focus (walk_at "dl ev")); (focus (walk_at "dl evd")))
    | ((with_reducible apply L2.DL.e_cons); (focus (walk_at "dl ev")); (focus (walk_at "dl ev")))
    | ((with_reducible apply L2.DL.e_ca); (focus (walk_at "dl ev")); (focus (walk_at "dl evd")))
    | ((with_reducible apply L2.DL.e_caL); (focus (walk_at "dl ev")); (focus (walk_at "dl evd")))
    | ((with_reducible apply L2.DL.e_tru); (focus (walk_at "dl ev")); (focus (walk_at "dl evd")))
    | ((with_reducible apply L2.DL.e_fz); (walk_at "dl ev"))
    | ((with_reducible apply L2.DL.e_gIt); (focus (walk_at "dl ev")); (focus (walk_at "dl evd")))
    | ((with_reducible apply L2.DL.e_iter); (focus (walk_at "dl ev")); (focus (walk_at "dl evd")))
    | ((with_reducible apply L2.DL.e_unL); (focus (walk_at "dl ev")); (focus (walk_at "dl evd")))
    | ((with_reducible apply L2.DL.e_opL); (focus (walk_at "dl ev")); (focus (walk_at "dl ev")); (focus (walk_at "dl evd")))
    | ((with_reducible apply L2.DL.e_part); (walk_at "dl ev"))
    | ((with_reducible apply L2.DL.e_sl); (focus (walk_at "dl ev")); (focus (walk_at "dl ev")); (focus (walk_at "dl ev")); (focus (walk_at "dl evd")))
    | ((with_reducible apply L2.DL.e_slV); (focus (walk_at "dl ev")); (focus (walk_at "dl ev")); (focus (walk_at "dl ev")); (focus (walk_at "dl ev")); (focus (walk_at "dl evd")))
    | ((with_reducible apply L2.DL.e_notT); (walk_at "dl ev")) | ((with_reducible apply L2.DL.e_notV); (walk_at "dl ev"))
    | ((with_reducible apply L2.DL.s_asg); (focus (walk_at "dl ev")); (focus rfl))
    | ((with_reducible apply L2.DL.s_asgL); (focus (walk_at "dl ev")); (focus rfl))
    | ((with_reducible apply L2.DL.s_ret); (walk_at "dl ev"))
    | ((with_reducible apply L2.DL.s_retL); (walk_at "dl ev"))
    | ((with_reducible apply L2.DL.s_retV); (walk_at "dl evs")) | ((with_reducible apply L2.DL.s_retVO); (walk_at "dl evs"))
    | ((with_reducible apply L2.DL.s_drop); (walk_at "dl ev"))
    | ((with_reducible apply L2.DL.s_setIx); (focus (walk_at "dl ev")); (focus (walk_at "dl evs")); (focus (walk_at "dl ev")); (focus (walk_at "dl evs")); (focus (walk_at "dl evd")))
    | ((with_reducible apply L2.DL.e_meth); (focus (walk_at "dl evs")); (focus (walk_at "dl ev")); (focus (walk_at "dl evs")); (focus (walk_at "dl evd")))
    | ((with_reducible apply L2.DL.s_par); (focus (walk_at "dl ev")); (focus rfl)))
local macro_rules | `(tactic| walk_at "dl frun") => `(tactic| (apply L2.DL.runR; (focus rfl); (focus rfl); (focus decide)))
local macro_rules | `(tactic| walk_at "dl frunN") => `(tactic| (apply L2.DL.runN; (focus rfl); (focus rfl); (focus decide)))
local macro_rules | `(tactic| walk_at "dl frunX") => `(tactic| (apply L2.DL.runX; (focus rfl); (focus rfl); (focus decide)))
local macro_rules | `(tactic| walk_at "dl st") => `(tactic| ((with_reducible apply L2.DL.s_seq); (focus (walk_at "dl ev"))))
section
set_option Elab.async false
set_option linter.all false
set_option maxRecDepth 100000
namespace G44
open PySem L2 L2.DL
set_option autoImplicit false
/-! ### the law's own well and draws -/
def Well (c : Int) (xs : List PyData) : Prop := ∃ a b s : Int, xs = [.int a, .int b, .int s] ∧ 0 ≤ a ∧ 0 ≤ b ∧ b < 20000000000000000000000000000 ∧ 0 ≤ s ∧ s ≤ c
theorem Well.mono {c c' : Int} {xs : List PyData} (h : Well c xs) (e : c ≤ c') : Well c' xs := by
  obtain ⟨a, b, s, h1, h2, h3, h4, h5, h6⟩ := h
  exact ⟨a, b, s, h1, h2, h3, h4, h5, by omega⟩
theorem draw_a (a b s many : Int) (ha : 0 < a) (hm : 0 < many) (hm2 : many < 2 ^ 100) : F__law_draw [some (.own true [.int a, .int b, .int s]), some (.val (.int many))] = some (.ok (.d (.int (a % many))), [some (.own true [.int (a / many), .int b, .int s]), none]) := by
  unfold F__law_draw m__law_draw
  walk_at "dl frun"
  · apply s_seqR
    apply s_ifT
    · walk_at "dl ev"
    · simpa using ha
    walk_at "dl st"
    walk_at "dl st"
    walk_at "dl ev"
  · rfl
theorem draw_b (b s many : Int) (hb0 : 0 ≤ b) (hb : b < 20000000000000000000000000000) (hs0 : 0 ≤ s) (hs : s < 1000000) (hm : 0 < many) (hm2 : many < 2 ^ 100) : ∃ r, F__law_draw [some (.own true [.int 0, .int b, .int s]), some (.val (.int many))] = some (.ok (.d (.int (r % many))), [some (.own true [.int 0, .int b, .int (s + 1)]), none]) := by
  unfold F__law_draw m__law_draw
  refine' ⟨?_, ?_⟩
  rotate_left 1
  walk_at "dl frun"
  · apply s_seq
    · apply s_ifF
      · walk_at "dl ev"
      · simp
      · walk_at "dl ev"
    walk_at "dl st"
    walk_at "dl st"
    walk_at "dl st"
    walk_at "dl st"
    walk_at "dl st"
    walk_at "dl ev"
  · rfl
theorem draw_ok {c many : Int} {xs : List PyData} (w : Well c xs) (hc : c < 900000) (hm : 0 < many) (hm2 : many < 2 ^ 100) : ∃ r xs', fnI F__law_draw xs [.int many] = some (.ok (.d (.int r), xs')) ∧ 0 ≤ r ∧ r < many ∧ Well (c + 1) xs' := by
  obtain ⟨a, b, s, rfl, h2, h3, h4, h5, h6⟩ := w
  by_cases ha : 0 < a
  · exact ⟨_, _, fnI_of (draw_a a b s many ha hm hm2), Int.emod_nonneg _ (by omega), Int.emod_lt_of_pos _ hm, _, _, _, rfl, Int.ediv_nonneg h2 (by omega), h3, h4, h5, by omega⟩
  · have : a = 0 := by omega
    subst this
    obtain ⟨r, hr⟩ := draw_b b s many h3 h4 h5 (by omega) hm hm2
    exact ⟨_, _, fnI_of hr, Int.emod_nonneg _ (by omega), Int.emod_lt_of_pos _ hm, _, _, _, rfl, by omega, h3, h4, by omega, by omega⟩
theorem mem_cut {α : Type} {xs : List α} {lo hi : Option Int} {x : α} (h : x ∈ cutD xs lo hi) : x ∈ xs := List.mem_of_mem_drop (List.mem_of_mem_take h)
theorem well_ok (ns : List Int) (k : Int) (hk0 : 0 ≤ k) (hk : k < 1000) : ∃ xs, fnV F__law_well [.list (ns.map .int), .int k] = some (.ok (.l xs)) ∧ Well 0 xs := by
  -- the cell
  obtain ⟨cell, hc⟩ : ∃ cell : Int, mIf (mTru boolD (mOp ltD (mVar 1) (mUn lenD (mVar 0)))) (mUn intD (mOp ixD (mVar 0) (mVar 1))) (mOp addD (mOp mulD (mPure (.int 83)) (mVar 1)) (mPure (.int 41)))
      [some (.val (.list (ns.map .int))), some (.val (.int k)), none, none, none, none] = some (.ok (.int cell), [some (.val (.list (ns.map .int))), some (.val (.int k)), none, none, none, none]) := by
    by_cases h : k < (ns.map PyData.int).length
    · have hl : k.toNat < ns.length := by rw [List.length_map] at h; omega
      refine ⟨ns[k.toNat], ?_⟩
      apply e_ifT (b := decide (k < (ns.map PyData.int).length)) (η1 := [some (.val (.list (ns.map .int))), some (.val (.int k)), none, none, none, none])
      · walk_at "dl ev"
      · exact decide_eq_true h
      · refine e_un (x := .int ns[k.toNat]) (e_op (e_var rfl) (e_var rfl) (ixD_i hk0 ?_)) rfl
        rw [List.getElem?_map, List.getElem?_eq_getElem hl]
        rfl
    · refine ⟨83 * k + 41, ?_⟩
      apply e_ifF (b := decide (k < (ns.map PyData.int).length)) (η1 := [some (.val (.list (ns.map .int))), some (.val (.int k)), none, none, none, none])
      · walk_at "dl ev"
      · exact decide_eq_false h
      · walk_at "dl ev"
  have hloop := fun (w : Int) => loop_inv (gm := gV 4) (xs := cutD (ns.map PyData.int) none (some 63)) (ms := mAsg (mOp modD (mUn intD (mOp addD (mOp mulD (mVar 3) (mPure (.int 4871))) (mOp modD (mUn intD (mVar 4)) (mOp addD (mOp powD (mPure (.int 10)) (mPure (.int 19))) (mPure (.int 51)))))) (mOp addD (mOp powD (mPure (.int 10)) (mPure (.int 25))) (mPure (.int 13)))) (gV 3))
    (fun _ η => ∃ (w : Int) (v : Option Slot), η = [some (.val (.list (ns.map .int))), some (.val (.int k)), some (.val (.int cell)), some (.val (.int w)), v, none] ∧ (∀ ds, v ≠ some (.own true ds)))
    (fun i x η hx ⟨w, v, hη, hv⟩ => by
      subst hη
      obtain ⟨z, _, rfl⟩ := List.mem_map.mp (mem_cut (List.mem_of_getElem? hx))
      refine ⟨[some (.val (.list (ns.map .int))), some (.val (.int k)), some (.val (.int cell)), some (.val (.int w)), some (.val (.int z)), none], ?_⟩
      refine' ⟨?_, ?_, ?_, ?_⟩
      rotate_left 2
      · walk_at "dl ev"
      · exact ⟨_, _, rfl, fun ds e => by cases e⟩
      · unfold gV stO
        split
        · rename_i d e
          exact absurd (Option.some.inj e) (hv d)
        · rfl)
    (η := [some (.val (.list (ns.map .int))), some (.val (.int k)), some (.val (.int cell)), some (.val (.int w)), none, none]) ⟨w, none, rfl, fun ds e => by cases e⟩
  obtain ⟨η', hl1, w', v', rfl, hv'⟩ := hloop (47 + ((ns.map PyData.int).length : Int))
  refine' ⟨?_, fnV_of (η1 := ?_) ?_, ?_⟩
  rotate_left 2
  · unfold F__law_well m__law_well
    walk_at "dl frun"
    · with_reducible apply s_seq
      · with_reducible apply s_asg
        · exact hc
        · rfl
      walk_at "dl st"
      with_reducible apply s_seq
      · with_reducible apply s_for
        · walk_at "dl ev"
        · exact hl1
      walk_at "dl st"
      walk_at "dl ev"
    · rfl
  · refine ⟨_, _, _, rfl, ?_, ?_, ?_, by omega, by omega⟩
    · split <;> omega
    · exact Int.emod_nonneg _ (by omega)
    · have := Int.emod_lt_of_pos ((if cell < 0 then -cell else cell) * 6599 + w' * 37 + 5 * (if decide (cell < 0) = true then 1 else 0) + 71 * k) (show (0 : Int) < 10000000000000000000000000000 + 331 by omega)
      omega
end G44
end
section
set_option Elab.async false
set_option linter.all false
set_option maxRecDepth 100000
namespace L2.DL
open PySem
set_option autoImplicit false
/-! ### plain data: what repr and == say -/
mutual
def numOk (L : Nat) : PyData → Bool
  | .none => true
  | .bool _ => true
  | .int i => decide (i.natAbs < 10 ^ L)
  | .list xs => numAll L xs
  | .tuple xs => numAll L xs
  | .str _ => false
  | .dict _ => false
def numAll (L : Nat) : List PyData → Bool
  | [] => true
  | x :: xs => numOk L x && numAll L xs
end
mutual
def bulk (L : Nat) : PyData → Nat
  | .list xs => bulkAll L xs + 4
  | .tuple xs => bulkAll L xs + 4
  | .none => L + 8
  | .bool _ => L + 8
  | .int _ => L + 8
  | .str _ => 0
  | .dict _ => 0
def bulkAll (L : Nat) : List PyData → Nat
  | [] => 0
  | x :: xs => bulk L x + 2 + bulkAll L xs
end
theorem strOk_app {x y : Str} (h : PyData.strOk x = true) (h2 : PyData.strOk y = true) : PyData.strOk (x ++ y) = true := by
  unfold PyData.strOk at *
  show (x.cps ++ y.cps).all _ = true
  rw [Array.all_append, h, h2]; rfl
theorem strOk_of (s : String) : PyData.strOk (Str.ofString s) = true := by
  unfold PyData.strOk
  rw [Str.ofString_eq_toList]
  simp only [List.all_toArray, List.all_map, List.all_eq_true, Function.comp_apply, decide_eq_true_eq]
  intro c _
  have h : c.toNat.isValidChar := c.valid
  unfold Nat.isValidChar at h
  omega
theorem strOk_join : ∀ ts : List Str, (∀ t ∈ ts, PyData.strOk t = true) → PyData.strOk (Str.join ", " ts) = true
  | [], _ => by show PyData.strOk (Str.ofString "") = true; exact strOk_of ""
  | [x], h => h x List.mem_cons_self
  | x :: y :: r, h => by
    have ih := strOk_join (y :: r) fun t ht => h t (List.mem_cons_of_mem _ ht)
    show PyData.strOk (x ++ ", " ++ Str.join ", " (y :: r)) = true
    exact strOk_app (strOk_app (h x List.mem_cons_self) (strOk_of ", ")) ih
theorem strOk_from : ∀ (ts : List Str) (k : Nat) (acc : Str), (∀ t ∈ ts, PyData.strOk t = true) → PyData.strOk acc = true → PyData.strOk (textFrom k acc ts) = true
  | [], _, acc, _, ha => ha
  | t :: r, k, acc, h, ha => by
    refine strOk_from r (k + 1) _ (fun t ht => h t (List.mem_cons_of_mem _ ht)) ?_
    exact strOk_app (strOk_app ha (strOk_of _)) (h t List.mem_cons_self)
theorem list_len : ∀ ts : List Str, (listText ts).length ≤ piled ts + 2
  | [] => by show 2 ≤ _; omega
  | t :: r => by
    have e : (listText (t :: r)).length = (textFrom 1 ("[" ++ "" ++ t) r).length + 1 := by
      show (textFrom 0 "[" (t :: r) ++ "]").length = _
      rw [strLen_append]; rfl
    rw [e, textFrom_length_pos r 1 _ (by decide), piled_cons, strLen_append]
    have : ((("[" : String) : Str) ++ (("" : String) : Str)).length = 1 := rfl
    omega
theorem tup_len (ts : List Str) : (tupleText ts).length ≤ piled ts + 4 := by
  unfold tupleText
  rw [strLen_append, strLen_append]
  have e1 : ((("(" : String) : Str)).length = 1 := rfl
  have e3 : (((if ts.length == 1 then ",)" else ")" : String) : Str)).length ≤ 2 := by split <;> decide
  have e4 : (Str.join ", " ts).length ≤ piled ts := by
    by_cases h : ts = []
    · subst h; decide
    · have := join_length_add ts h
      omega
  rw [e1]
  omega
mutual
theorem num_shown {L : Nat} (hL : 0 < L) : ∀ d : PyData, numOk L d = true → d.shown.length ≤ bulk L d ∧ PyData.strOk d.shown = true
  | .none, _ => ⟨by show 4 ≤ L + 8; omega, strOk_of "None"⟩
  | .bool true, _ => ⟨by show 4 ≤ L + 8; omega, strOk_of "True"⟩
  | .bool false, _ => ⟨by show 5 ≤ L + 8; omega, strOk_of "False"⟩
  | .int i, h => by
    have h : i.natAbs < 10 ^ L := of_decide_eq_true h
    refine ⟨?_, strOk_of (toString i)⟩
    show (Str.ofString (toString i)).length ≤ L + 8
    rw [ofString_length]
    have := int_text_length_le10 hL h
    omega
  | .list xs, h => by
    obtain ⟨a, b⟩ := num_shownAll hL xs h
    refine ⟨?_, strOk_app (strOk_from _ _ _ b (strOk_of "[")) (strOk_of "]")⟩
    show (listText (PyData.shownAll xs)).length ≤ bulkAll L xs + 4
    have := list_len (PyData.shownAll xs)
    omega
  | .tuple xs, h => by
    obtain ⟨a, b⟩ := num_shownAll hL xs h
    refine ⟨?_, strOk_app (strOk_app (strOk_of "(") (strOk_join _ b)) (strOk_of _)⟩
    show (tupleText (PyData.shownAll xs)).length ≤ bulkAll L xs + 4
    have := tup_len (PyData.shownAll xs)
    omega
  | .str _, h => by cases h
  | .dict _, h => by cases h
theorem num_shownAll {L : Nat} (hL : 0 < L) : ∀ ds : List PyData, numAll L ds = true → piled (PyData.shownAll ds) ≤ bulkAll L ds ∧ ∀ t ∈ PyData.shownAll ds, PyData.strOk t = true
  | [], _ => ⟨Nat.le_refl _, fun t h => by cases h⟩
  | x :: xs, h => by
    have h : (numOk L x && numAll L xs) = true := h
    rw [Bool.and_eq_true] at h
    obtain ⟨a, b⟩ := num_shown hL x h.1
    obtain ⟨c, d⟩ := num_shownAll hL xs h.2
    refine ⟨?_, fun t ht => ?_⟩
    · show piled (x.shown :: PyData.shownAll xs) ≤ bulk L x + 2 + bulkAll L xs
      rw [piled_cons]; omega
    · have ht : t ∈ x.shown :: PyData.shownAll xs := ht
      rcases List.mem_cons.mp ht with e | e
      · subst e; exact b
      · exact d t e
end
mutual
theorem num_flags {L : Nat} (hL : L ≤ 500) : ∀ d : PyData, numOk L d = true → d.showable = true ∧ d.hasDict = false ∧ d.canLay0 = true
  | .none, _ => ⟨rfl, rfl, rfl⟩
  | .bool b, _ => ⟨rfl, rfl, rfl⟩
  | .int i, h => by
    have h : i.natAbs < 10 ^ L := of_decide_eq_true h
    refine ⟨decide_eq_true (log_lt (Nat.lt_of_lt_of_le h ?_) (by decide)), rfl, rfl⟩
    exact Nat.le_trans (Nat.pow_le_pow_right (by decide) hL) (by decide +kernel)
  | .list xs, h => num_flagsAll hL xs h
  | .tuple xs, h => num_flagsAll hL xs h
  | .str _, h => by cases h
  | .dict _, h => by cases h
theorem num_flagsAll {L : Nat} (hL : L ≤ 500) : ∀ ds : List PyData, numAll L ds = true → PyData.showableAll ds = true ∧ PyData.hasDictAll ds = false ∧ PyData.canLayAll0 ds = true
  | [], _ => ⟨rfl, rfl, rfl⟩
  | x :: xs, h => by
    have h : (numOk L x && numAll L xs) = true := h
    rw [Bool.and_eq_true] at h
    obtain ⟨a, b, c⟩ := num_flags hL x h.1
    obtain ⟨a', b', c'⟩ := num_flagsAll hL xs h.2
    exact ⟨by show (x.showable && PyData.showableAll xs) = true; rw [a, a']; rfl, by show (x.hasDict || PyData.hasDictAll xs) = false; rw [b, b']; rfl, by show (x.canLay0 && PyData.canLayAll0 xs) = true; rw [c, c']; rfl⟩
end
/-- repr of plain data; the same text twice -/
theorem rep_ok {L : Nat} {d : PyData} (h0 : 0 < L) (hL : L ≤ 500) (h : numOk L d = true) (hd : d.depth ≤ 64) (hb : bulk L d ≤ 16777216) : reprD d = some (.str d.shown) := by
  obtain ⟨a, b, _⟩ := num_flags hL d h
  obtain ⟨c, _⟩ := num_shown h0 d h
  unfold reprD
  rw [if_pos ⟨a, b, hd, by rw [sizeLine_eq]; omega⟩]
theorem ne_str {x : Str} (h : PyData.strOk x = true) : neD (.str x) (.str x) = some (.bool false) := by
  have hs : SeqAt.shaped (.str x) = true := by
    unfold SeqAt.shaped
    show (PyData.strOk x && decide (0 ≤ 64)) = true
    rw [h]; rfl
  unfold neD
  rw [if_pos ⟨hs, hs⟩]
  simp [PyData.eqv]
theorem eq_str {x : Str} (h : PyData.strOk x = true) : eqD (.str x) (.str x) = some (.bool true) := by
  have hs : SeqAt.shaped (.str x) = true := by
    unfold SeqAt.shaped
    show (PyData.strOk x && decide (0 ≤ 64)) = true
    rw [h]; rfl
  unfold eqD
  rw [if_pos ⟨hs, hs⟩]
  simp [PyData.eqv]
theorem shaped_num {L : Nat} {d : PyData} (hL : L ≤ 500) (h : numOk L d = true) (hd : d.depth ≤ 64) : SeqAt.shaped d = true := by
  unfold SeqAt.shaped
  rw [(num_flags hL d h).2.2, decide_eq_true hd]; rfl
theorem shaped_int {i : Int} : SeqAt.shaped (.int i) = true := rfl
theorem shaped_none : SeqAt.shaped .none = true := rfl
theorem eqD_ii {i j : Int} : eqD (.int i) (.int j) = some (.bool (i == j)) := rfl
theorem neD_ii {i j : Int} : neD (.int i) (.int j) = some (.bool (!(i == j))) := rfl
theorem neD_same {d : PyData} (h : SeqAt.shaped d = true) : neD d d = some (.bool false) := by
  unfold neD
  rw [if_pos ⟨h, h⟩, SeqAt.eqv_refl d (SeqAt.canLay_of_shaped h)]; rfl
theorem eqD_same {d : PyData} (h : SeqAt.shaped d = true) : eqD d d = some (.bool true) := by
  unfold eqD
  rw [if_pos ⟨h, h⟩, SeqAt.eqv_refl d (SeqAt.canLay_of_shaped h)]
theorem neD_nil {ds : List PyData} (h : SeqAt.shaped (.list ds) = true) : neD (.list ds) (.list []) = some (.bool (!ds.isEmpty)) := by
  unfold neD
  rw [if_pos ⟨h, rfl⟩]
  cases ds <;> rfl
theorem depth_ints : ∀ ns : List Int, PyData.depthAll (ns.map PyData.int) = 0
  | [] => rfl
  | n :: ns => by show max 0 (PyData.depthAll (ns.map PyData.int)) = 0; rw [depth_ints ns]; rfl
theorem canLay_ints : ∀ ns : List Int, PyData.canLayAll0 (ns.map PyData.int) = true
  | [] => rfl
  | n :: ns => by show (true && PyData.canLayAll0 (ns.map PyData.int)) = true; rw [canLay_ints ns]; rfl
theorem shaped_ints (ns : List Int) : SeqAt.shaped (.list (ns.map .int)) = true := by
  unfold SeqAt.shaped
  show (PyData.canLayAll0 _ && decide (PyData.depthAll _ + 1 ≤ 64)) = true
  rw [canLay_ints, depth_ints]; rfl
theorem shaped_tints (ns : List Int) : SeqAt.shaped (.tuple (ns.map .int)) = true := by
  unfold SeqAt.shaped
  show (PyData.canLayAll0 _ && decide (PyData.depthAll _ + 1 ≤ 64)) = true
  rw [canLay_ints, depth_ints]; rfl
theorem numAll_ints {L : Nat} : ∀ ns : List Int, (∀ n ∈ ns, n.natAbs < 10 ^ L) → numAll L (ns.map .int) = true
  | [], _ => rfl
  | n :: ns, h => by
    show (decide (n.natAbs < 10 ^ L) && numAll L (ns.map .int)) = true
    rw [decide_eq_true (h n List.mem_cons_self), numAll_ints ns fun m hm => h m (List.mem_cons_of_mem _ hm)]; rfl
theorem bulk_ints {L : Nat} : ∀ ns : List Int, bulkAll L (ns.map .int) = ns.length * (L + 10)
  | [] => by simp [bulkAll]
  | n :: ns => by
    show L + 8 + 2 + bulkAll L (ns.map .int) = _
    rw [bulk_ints ns, List.length_cons, Nat.add_mul]; omega
end L2.DL
end
section
set_option autoImplicit false
/-! fewest coins: the table, the exchange, the period -/
namespace P44
/-- one more than the least -/
def mini : List Nat → Option Nat
  | [] => none
  | x :: r => some (1 + r.foldl min x)
def wayO (t : List (Option Nat)) (c : Nat) : Option Nat := if c ≤ t.length then t.getD (t.length - c) none else none
def nxt (cs : List Nat) (t : List (Option Nat)) : Option Nat := mini (cs.filterMap (wayO t))
def tab (cs : List Nat) : Nat → List (Option Nat)
  | 0 => [some 0]
  | n + 1 => tab cs n ++ [nxt cs (tab cs n)]
def best (cs : List Nat) (n : Nat) : Option Nat := (tab cs n).getD n none
section
variable {cs : List Nat}
theorem tab_len : ∀ n, (tab cs n).length = n + 1
  | 0 => rfl
  | n + 1 => by rw [tab, List.length_append, tab_len n]; rfl
theorem tab_get {m : Nat} : ∀ {n i : Nat}, i ≤ n → (tab cs n)[i]? = some (best cs i)
  | 0, i, h => by
    have : i = 0 := by omega
    subst this
    rfl
  | n + 1, i, h => by
    rw [tab]
    by_cases e : i = n + 1
    · subst e
      rw [List.getElem?_append_right (by rw [tab_len]; omega), tab_len]
      unfold best
      rw [tab, List.getD_eq_getElem?_getD, List.getElem?_append_right (by rw [tab_len]; omega), tab_len]
      simp
    · rw [List.getElem?_append_left (by rw [tab_len]; omega)]
      exact tab_get (m := m) (by omega)
theorem tab_getD {n i : Nat} (h : i ≤ n) : (tab cs n).getD i none = best cs i := by
  rw [List.getD_eq_getElem?_getD, tab_get (m := 0) h]; rfl
theorem tab_take : ∀ {n m : Nat}, n ≤ m → (tab cs m).take (n + 1) = tab cs n
  | n, 0, h => by
    have : n = 0 := by omega
    subst this; rfl
  | n, m + 1, h => by
    by_cases e : n = m + 1
    · subst e
      exact List.take_of_length_le (by rw [tab_len]; omega)
    · rw [tab, List.take_append_of_le_length (by rw [tab_len]; omega)]
      exact tab_take (by omega)
theorem best_zero : best cs 0 = some 0 := rfl
theorem best_succ (n : Nat) : best cs (n + 1) = mini (cs.filterMap fun c => if c ≤ n + 1 then (tab cs n).getD (n + 1 - c) none else none) := by
  have : best cs (n + 1) = nxt cs (tab cs n) := by
    unfold best
    rw [tab, List.getD_eq_getElem?_getD, List.getElem?_append_right (by rw [tab_len]; omega), tab_len]
    simp
  rw [this]
  unfold nxt
  congr 1
  congr 1
  funext c
  unfold wayO
  rw [tab_len]
/-- n in k coins -/
inductive Rep (cs : List Nat) : Nat → Nat → Prop where
  | zero : Rep cs 0 0
  | step {c n k : Nat} : c ∈ cs → Rep cs n k → Rep cs (n + c) (k + 1)
theorem foldl_min_le : ∀ (l : List Nat) (x : Nat), l.foldl min x ≤ x ∧ ∀ y ∈ l, l.foldl min x ≤ y
  | [], x => ⟨Nat.le_refl _, fun y h => (by cases h)⟩
  | a :: l, x => by
    obtain ⟨h1, h2⟩ := foldl_min_le l (min x a)
    refine ⟨Nat.le_trans h1 (Nat.min_le_left _ _), fun y h => ?_⟩
    rcases List.mem_cons.mp h with e | e
    · subst e; exact Nat.le_trans h1 (Nat.min_le_right _ _)
    · exact h2 y e
theorem foldl_min_mem : ∀ (l : List Nat) (x : Nat), l.foldl min x = x ∨ l.foldl min x ∈ l
  | [], x => .inl rfl
  | a :: l, x => by
    rcases foldl_min_mem l (min x a) with h | h
    · rw [List.foldl_cons, h]
      rcases Nat.le_total x a with e | e
      · exact .inl (Nat.min_eq_left e)
      · rw [Nat.min_eq_right e]; exact .inr List.mem_cons_self
    · exact .inr (List.mem_cons_of_mem _ h)
theorem mini_some {l : List Nat} {k : Nat} (h : mini l = some k) : ∃ x ∈ l, k = x + 1 ∧ ∀ y ∈ l, x ≤ y := by
  cases l with
  | nil => cases h
  | cons a l =>
    simp only [mini, Option.some.injEq] at h
    refine ⟨l.foldl min a, ?_, by omega, fun y hy => ?_⟩
    · rcases foldl_min_mem l a with e | e
      · rw [e]; exact List.mem_cons_self
      · exact List.mem_cons_of_mem _ e
    · rcases List.mem_cons.mp hy with e | e
      · subst e; exact (foldl_min_le l y).1
      · exact (foldl_min_le l a).2 y e
theorem mini_none {l : List Nat} (h : mini l = none) : l = [] := by
  cases l with
  | nil => rfl
  | cons a l => cases h
theorem best_spec (hp : ∀ c ∈ cs, 1 ≤ c) : ∀ n : Nat, (∀ k, best cs n = some k → Rep cs n k ∧ ∀ j, Rep cs n j → k ≤ j) ∧ (best cs n = none → ∀ j, ¬ Rep cs n j) := by
  intro n
  induction n using Nat.strongRecOn with
  | ind n ih =>
    cases n with
    | zero =>
      rw [best_zero]
      exact ⟨fun k h => by cases h; exact ⟨.zero, fun j _ => Nat.zero_le _⟩, fun h => by cases h⟩
    | succ n =>
      rw [best_succ]
      have way : ∀ {x : Nat}, x ∈ (cs.filterMap fun c => if c ≤ n + 1 then (tab cs n).getD (n + 1 - c) none else none) ↔ ∃ c ∈ cs, c ≤ n + 1 ∧ best cs (n + 1 - c) = some x := by
        intro x
        rw [List.mem_filterMap]
        constructor
        · rintro ⟨c, hc, e⟩
          split at e
          · rename_i hle
            have := hp c hc
            rw [tab_getD (by omega)] at e
            exact ⟨c, hc, hle, e⟩
          · cases e
        · rintro ⟨c, hc, hle, e⟩
          have := hp c hc
          exact ⟨c, hc, by rw [if_pos hle, tab_getD (by omega)]; exact e⟩
      -- a last coin
      have last : ∀ {j : Nat}, Rep cs (n + 1) j → ∃ c ∈ cs, c ≤ n + 1 ∧ ∃ i, j = i + 1 ∧ Rep cs (n + 1 - c) i := by
        intro j h
        generalize hm : n + 1 = m at h
        cases h with
        | zero => omega
        | @step c n' k hc h' => exact ⟨c, hc, by omega, k, rfl, by rw [Nat.add_sub_cancel]; exact h'⟩
      refine ⟨fun k h => ?_, fun h j hj => ?_⟩
      · obtain ⟨x, hx, rfl, hmin⟩ := mini_some h
        obtain ⟨c, hc, hle, e⟩ := way.mp hx
        have hc1 := hp c hc
        obtain ⟨r, _⟩ := (ih (n + 1 - c) (by omega)).1 x e
        refine ⟨?_, fun j hj => ?_⟩
        · have := Rep.step hc r
          rwa [Nat.sub_add_cancel hle] at this
        · obtain ⟨c', hc', hle', i, rfl, r'⟩ := last hj
          have hc1' := hp c' hc'
          cases e' : best cs (n + 1 - c') with
          | none => exact absurd r' ((ih (n + 1 - c') (by omega)).2 e' i)
          | some y =>
            have a := ((ih (n + 1 - c') (by omega)).1 y e').2 i r'
            have b := hmin y (way.mpr ⟨c', hc', hle', e'⟩)
            omega
      · have e0 := mini_none h
        obtain ⟨c', hc', hle', i, rfl, r'⟩ := last hj
        have hc1' := hp c' hc'
        cases e' : best cs (n + 1 - c') with
        | none => exact (ih (n + 1 - c') (by omega)).2 e' i r'
        | some y =>
          have := way.mpr ⟨c', hc', hle', e'⟩
          rw [e0] at this
          cases this
/-! the exchange -/
theorem pigeon : ∀ (g : Nat) (f : Nat → Nat), (∀ i, i ≤ g → f i < g) → ∃ i j, i < j ∧ j ≤ g ∧ f i = f j
  | 0, f, h => absurd (h 0 (Nat.le_refl _)) (by omega)
  | g + 1, f, h => by
    by_cases hv : ∃ i, i ≤ g ∧ f i = f (g + 1)
    · obtain ⟨i, h1, h2⟩ := hv
      exact ⟨i, g + 1, by omega, Nat.le_refl _, h2⟩
    · have hn : ∀ i, i ≤ g → f i ≠ f (g + 1) := fun i hi e => hv ⟨i, hi, e⟩
      obtain ⟨i, j, h1, h2, h3⟩ := pigeon g (fun i => if f i = g then f (g + 1) else f i) fun i hi => by
        have a := h i (by omega)
        have b := h (g + 1) (Nat.le_refl _)
        have c := hn i hi
        show (if f i = g then f (g + 1) else f i) < g
        split <;> omega
      refine ⟨i, j, h1, by omega, ?_⟩
      have a := hn i (by omega)
      have b := hn j h2
      have h3 : (if f i = g then f (g + 1) else f i) = (if f j = g then f (g + 1) else f j) := h3
      split at h3 <;> split at h3 <;> omega
theorem rep_list {n k : Nat} (h : Rep cs n k) : ∃ l : List Nat, (∀ c ∈ l, c ∈ cs) ∧ l.sum = n ∧ l.length = k := by
  induction h with
  | zero => exact ⟨[], (fun c h => by cases h), rfl, rfl⟩
  | @step c n k hc _ ih =>
    obtain ⟨l, a, b, d⟩ := ih
    exact ⟨c :: l, fun x hx => (by rcases List.mem_cons.mp hx with e | e; exact e ▸ hc; exact a x e), by rw [List.sum_cons, b]; omega, by rw [List.length_cons, d]⟩
theorem rep_of : ∀ {l : List Nat}, (∀ c ∈ l, c ∈ cs) → Rep cs l.sum l.length
  | [], _ => .zero
  | c :: l, h => by
    have := Rep.step (h c List.mem_cons_self) (rep_of (l := l) fun x hx => h x (List.mem_cons_of_mem _ hx))
    rw [List.sum_cons, List.length_cons, Nat.add_comm c]
    exact this
theorem sum_le {m : Nat} : ∀ {l : List Nat}, (∀ c ∈ l, c ≤ m) → l.sum ≤ l.length * m
  | [], _ => by simp
  | c :: l, h => by
    have a := h c List.mem_cons_self
    have b := sum_le (l := l) fun x hx => h x (List.mem_cons_of_mem _ hx)
    rw [List.sum_cons, List.length_cons, Nat.add_mul]
    omega
theorem sum_pos : ∀ {l : List Nat}, (∀ c ∈ l, 1 ≤ c) → l.length ≤ l.sum
  | [], _ => by simp
  | c :: l, h => by
    have a := h c List.mem_cons_self
    have b := sum_pos (l := l) fun x hx => h x (List.mem_cons_of_mem _ hx)
    rw [List.sum_cons, List.length_cons]
    omega
theorem swap {g n k : Nat} (hp : ∀ c ∈ cs, 1 ≤ c) (hg : g ∈ cs) (hm : ∀ c ∈ cs, c ≤ g) (hn : (g - 1) * (g - 1) < n) (h : Rep cs n k) : ∃ j, j + 1 ≤ k ∧ g ≤ n ∧ Rep cs (n - g) j := by
  obtain ⟨l, hl, rfl, rfl⟩ := rep_list h
  have hg1 := hp g hg
  by_cases hin : g ∈ l
  · obtain ⟨a, b, rfl⟩ := List.append_of_mem hin
    have r := rep_of (cs := cs) (l := a ++ b) fun c hc => hl c (by
      rcases List.mem_append.mp hc with e | e
      · exact List.mem_append_left _ e
      · exact List.mem_append_right _ (List.mem_cons_of_mem _ e))
    have e : (a ++ g :: b).sum - g = (a ++ b).sum := by rw [List.sum_append, List.sum_append, List.sum_cons]; omega
    refine ⟨(a ++ b).length, by rw [List.length_append, List.length_append, List.length_cons]; omega, by rw [List.sum_append, List.sum_cons]; omega, ?_⟩
    rw [e]
    exact r
  · have hlt : ∀ c ∈ l, c ≤ g - 1 := fun c hc => by
      have a := hm c (hl c hc)
      have : c ≠ g := fun e => hin (e ▸ hc)
      omega
    have hlen : g ≤ l.length := by
      have a := sum_le hlt
      by_cases z : l.length ≤ g - 1
      · have := Nat.mul_le_mul_right (g - 1) z
        omega
      · omega
    obtain ⟨i, j, h1, h2, h3⟩ := pigeon g (fun i => (l.take i).sum % g) fun i _ => Nat.mod_lt _ hg1
    -- l = take i ++ seg ++ drop j
    have e1 : l.take j = l.take i ++ (l.take j).drop i := by
      have := (List.take_append_drop i (l.take j)).symm
      rwa [List.take_take, Nat.min_eq_left (by omega)] at this
    have e2 : l = l.take i ++ ((l.take j).drop i ++ l.drop j) := by
      have := (List.take_append_drop j l).symm
      rw [e1] at this
      rw [List.append_assoc] at this
      exact this
    have hseg : ∀ c ∈ (l.take j).drop i, c ∈ l := fun c hc => List.mem_of_mem_take (List.mem_of_mem_drop hc)
    have s1 : (l.take j).sum = (l.take i).sum + ((l.take j).drop i).sum := by
      have := congrArg List.sum e1
      rwa [List.sum_append] at this
    have L1 : ((l.take j).drop i).length = j - i := by rw [List.length_drop, List.length_take]; omega
    have b1 := sum_le (l := (l.take j).drop i) fun c hc => hlt c (hseg c hc)
    have b2 := sum_pos (l := (l.take j).drop i) fun c hc => hp c (hl c (hseg c hc))
    rw [L1] at b1 b2
    -- the segment's sum is a multiple of g
    obtain ⟨q, hq⟩ : ∃ q, ((l.take j).drop i).sum = g * q := by
      have h3 : (l.take i).sum % g = (l.take j).sum % g := h3
      rw [s1] at h3
      have d := Nat.div_add_mod ((l.take i).sum) g
      have d2 := Nat.div_add_mod ((l.take i).sum + ((l.take j).drop i).sum) g
      refine ⟨((l.take i).sum + ((l.take j).drop i).sum) / g - (l.take i).sum / g, ?_⟩
      rw [Nat.mul_sub]
      omega
    have hq1 : 1 ≤ q := by
      rcases Nat.eq_zero_or_pos q with e | e
      · subst e; omega
      · exact e
    have hqL : q < j - i := by
      have : g * q ≤ (j - i) * (g - 1) := by omega
      have h4 : (j - i) * (g - 1) < (j - i) * g := Nat.mul_lt_mul_of_pos_left (by omega) (by omega)
      have h5 : q * g < (j - i) * g := by rw [Nat.mul_comm q g]; omega
      exact Nat.lt_of_mul_lt_mul_right h5
    -- the new list, one g taken away
    have r := rep_of (cs := cs) (l := l.take i ++ (List.replicate (q - 1) g ++ l.drop j)) fun c hc => by
      rcases List.mem_append.mp hc with e | e
      · exact hl c (List.mem_of_mem_take e)
      · rcases List.mem_append.mp e with e | e
        · rw [List.eq_of_mem_replicate e]; exact hg
        · exact hl c (List.mem_of_mem_drop e)
    have sl : l.sum = (l.take i).sum + (((l.take j).drop i).sum + (l.drop j).sum) := by
      have := congrArg List.sum e2
      rwa [List.sum_append, List.sum_append] at this
    have ll : l.length = i + ((j - i) + (l.drop j).length) := by rw [List.length_drop]; omega
    have gq : g * q = g * (q - 1) + g := by
      obtain ⟨p, rfl⟩ : ∃ p, q = p + 1 := ⟨q - 1, by omega⟩
      rw [Nat.add_sub_cancel, Nat.mul_add, Nat.mul_one]
    have sr : (l.take i ++ (List.replicate (q - 1) g ++ l.drop j)).sum = l.sum - g := by
      rw [List.sum_append, List.sum_append, List.sum_replicate_nat, sl, hq, gq, Nat.mul_comm (q - 1) g]
      omega
    have lr : (l.take i ++ (List.replicate (q - 1) g ++ l.drop j)).length = i + ((q - 1) + (l.drop j).length) := by
      rw [List.length_append, List.length_append, List.length_replicate, List.length_take]
      omega
    rw [sr, lr] at r
    refine ⟨_, ?_, ?_, r⟩
    · omega
    · rw [sl, hq, gq]; omega
/-- far out the greatest coin is one of the fewest -/
theorem best_far {g n : Nat} (hp : ∀ c ∈ cs, 1 ≤ c) (hg : g ∈ cs) (hm : ∀ c ∈ cs, c ≤ g) (hn : (g - 1) * (g - 1) < n + g) : best cs (n + g) = (best cs n).map (· + 1) := by
  obtain ⟨a1, a2⟩ := best_spec hp (n + g)
  obtain ⟨b1, b2⟩ := best_spec hp n
  cases eb : best cs n with
  | none =>
    cases ea : best cs (n + g) with
    | none => rfl
    | some k =>
      obtain ⟨j, _, _, r⟩ := swap hp hg hm hn (a1 k ea).1
      rw [Nat.add_sub_cancel] at r
      exact absurd r (b2 eb j)
  | some k =>
    have r := Rep.step hg (b1 k eb).1
    cases ea : best cs (n + g) with
    | none => exact absurd r (a2 ea _)
    | some m =>
      have h1 := (a1 m ea).2 _ r
      obtain ⟨j, hj, _, r2⟩ := swap hp hg hm hn (a1 m ea).1
      rw [Nat.add_sub_cancel] at r2
      have h2 := (b1 k eb).2 j r2
      show some m = some (k + 1)
      congr 1
      omega
theorem best_times {g : Nat} (hp : ∀ c ∈ cs, 1 ≤ c) (hg : g ∈ cs) (hm : ∀ c ∈ cs, c ≤ g) : ∀ (t n : Nat), ((g - 1) * (g - 1) < n + g ∨ t = 0) → best cs (n + t * g) = (best cs n).map (· + t)
  | 0, n, _ => by
    rw [Nat.zero_mul, Nat.add_zero]
    cases best cs n <;> rfl
  | t + 1, n, h => by
    have h : (g - 1) * (g - 1) < n + g := by omega
    have e : n + (t + 1) * g = (n + t * g) + g := by rw [Nat.add_mul, Nat.one_mul]; omega
    rw [e, best_far hp hg hm (by have := Nat.zero_le (t * g); omega), best_times hp hg hm t n (.inl h)]
    cases best cs n with
    | none => rfl
    | some k => show some (k + t + 1) = some (k + (t + 1)); rfl
/-- with a coin of one all is paid -/
theorem best_one (hp : ∀ c ∈ cs, 1 ≤ c) (h1 : 1 ∈ cs) (n : Nat) : ∃ k, best cs n = some k ∧ k ≤ n := by
  have r : Rep cs n n := by
    induction n with
    | zero => exact .zero
    | succ n ih => exact Rep.step h1 ih
  cases e : best cs n with
  | none => exact absurd r ((best_spec hp n).2 e n)
  | some k => exact ⟨k, rfl, ((best_spec hp n).1 k e).2 n r⟩
theorem best_le (hp : ∀ c ∈ cs, 1 ≤ c) {n k : Nat} (e : best cs n = some k) : k ≤ n := by
  obtain ⟨l, a, b, c⟩ := rep_list ((best_spec hp n).1 k e).1
  have := sum_pos (l := l) fun x hx => hp x (a x hx)
  omega
/-- no smaller step comes round -/
theorem no_less {b : Nat → Int} {g less far : Nat} {c : Int} (h0 : 0 < less) (hl : less < g) (hg : ∀ n, far ≤ n → b (n + g) = b n + 1) (hc : ∀ n, far ≤ n → n < far + g → b (n + less) = b n + c) : False := by
  have all : ∀ n, far ≤ n → b (n + less) = b n + c := by
    intro n
    induction n using Nat.strongRecOn with
    | ind n ih =>
      intro hn
      by_cases h : n < far + g
      · exact hc n hn h
      · have a := ih (n - g) (by omega) (by omega)
        have x := hg (n - g + less) (by omega)
        have y := hg (n - g) (by omega)
        have e1 : n - g + less + g = n + less := by omega
        have e2 : n - g + g = n := by omega
        rw [e1] at x
        rw [e2] at y
        omega
  have it1 : ∀ t : Nat, b (far + t * less) = b far + t * c := by
    intro t
    induction t with
    | zero => simp
    | succ t ih =>
      have e : far + (t + 1) * less = (far + t * less) + less := by rw [Nat.add_mul, Nat.one_mul]; omega
      rw [e, all _ (by omega), ih]
      have : ((t + 1 : Nat) : Int) * c = (t : Int) * c + c := by rw [Int.natCast_succ, Int.add_mul, Int.one_mul]
      rw [this]; omega
  have it2 : ∀ t : Nat, b (far + t * g) = b far + t := by
    intro t
    induction t with
    | zero => simp
    | succ t ih =>
      have e : far + (t + 1) * g = (far + t * g) + g := by rw [Nat.add_mul, Nat.one_mul]; omega
      rw [e, hg _ (by omega), ih]
      omega
  have a := it1 g
  have d := it2 less
  rw [Nat.mul_comm] at d
  have e : (g : Int) * c = less := by omega
  have : c ≤ 0 ∨ 1 ≤ c := by omega
  rcases this with h | h
  · have := Int.mul_nonpos_of_nonneg_of_nonpos (a := (g : Int)) (b := c) (by omega) h
    omega
  · have := Int.mul_le_mul_of_nonneg_left (c := (g : Int)) h (by omega)
    omega
end
end P44
end
section
set_option Elab.async false
set_option linter.all false
set_option maxRecDepth 100000
namespace G44
open PySem L2 L2.DL P44
set_option autoImplicit false
def enC (cs : List Nat) : List PyData := cs.map fun (c : Nat) => PyData.int (c : Int)
theorem enC_len (cs : List Nat) : (enC cs).length = cs.length := List.length_map _
def enO : Option Nat → PyData
  | none => .none
  | some k => .int (k : Int)
def enT (t : List (Option Nat)) : List PyData := t.map enO
structure Coins (cs : List Nat) : Prop where
  ne : cs ≠ []
  five : cs.length ≤ 5
  le : ∀ c ∈ cs, 1 ≤ c ∧ c ≤ 60
  up : cs.Pairwise (· < ·)
theorem enT_get {t : List (Option Nat)} {i : Nat} (h : i < t.length) : (enT t)[i]? = some (enO (t.getD i none)) := by
  unfold enT
  rw [List.getElem?_map, List.getElem?_eq_getElem h, List.getD_eq_getElem?_getD, List.getElem?_eq_getElem h]
  rfl
theorem line_eq : sizeLine = 16777216 := sizeLine_eq
/-! ### the law's own table -/
theorem law_ways {cs : List Nat} {t : List (Option Nat)} {η : EnvD} {a b d e : Option Slot} (hc : Coins cs) (hη : η = [some (.val (.tuple (enC cs))), a, some (.own false (enT t)), some (.val (.int (t.length : Int))), b, none, d]) :
    mComp (mIter (mVar 0)) (gV 5) (mTru boolD (mOp leD (mVar 5) (mVar 3))) (mOpV ixD 2 (mOp subD (mVar 3) (mVar 5))) [5] η = some (.ok (cs.filterMap fun c => if c ≤ t.length then some (enO (t.getD (t.length - c) none)) else none), η) := by
  subst hη
  have key := comp_map (gm := gV 5) (mt := mTru boolD (mOp leD (mVar 5) (mVar 3))) (m := mOpV ixD 2 (mOp subD (mVar 3) (mVar 5))) (vs := [5])
    (η := [some (.val (.tuple (enC cs))), a, some (.own false (enT t)), some (.val (.int (t.length : Int))), b, none, d])
    (f := fun x => match x with | .int c => if c.toNat ≤ t.length then some (enO (t.getD (t.length - c.toNat) none)) else none | _ => none) rfl (enC cs) [] (by
      rw [List.length_nil, enC_len, line_eq]; have := hc.five; omega) (fun x hx => by
      obtain ⟨c, hcm, rfl⟩ := List.mem_map.mp hx
      have hc1 := hc.le c hcm
      refine ⟨_, rfl, ?_⟩
      by_cases h : c ≤ t.length
      · refine .inl ⟨_, enO (t.getD (t.length - c) none), ?_, e_tru (e_op (e_var rfl) (e_var rfl) leD_e) ?_, ?_⟩
        · show (if (c : Int).toNat ≤ _ then _ else _) = _
          rw [Int.toNat_natCast, if_pos h]
        · rw [decide_eq_true (by omega)]; rfl
        · refine ⟨_, e_opV (e_borO rfl) (e_op (e_var rfl) (e_var rfl) subD_e) (e_borO rfl) (ixD_i (by omega) ?_), rfl⟩
          have e : ((t.length : Int) - (c : Int)).toNat = t.length - c := by omega
          rw [e]
          exact enT_get (by omega)
      · refine .inr ⟨?_, _, e_tru (e_op (e_var rfl) (e_var rfl) leD_e) ?_, rfl⟩
        · show (if (c : Int).toNat ≤ _ then _ else _) = _
          rw [Int.toNat_natCast, if_neg h]
        · rw [decide_eq_false (by omega)]; rfl)
  refine (e_comp (e_iter (e_var rfl) rfl) key).trans ?_
  rw [List.nil_append]
  unfold enC
  rw [List.filterMap_map]
  rfl
theorem stO_eq {i : Nat} {s : Slot} {η : EnvD} (h : ∀ ds, η[i]? ≠ some (some (.own true ds))) : stO i s η = some (η.set i (some s)) := by
  unfold stO
  split
  · rename_i ds e; exact absurd e (h ds)
  · rfl
def NT (v : Option Slot) : Prop := ∀ ds, v ≠ some (.own true ds)
def waysI (cs : List Nat) (t : List (Option Nat)) : List Int := (cs.filterMap (wayO t)).map fun (k : Nat) => (k : Int)
theorem ways_two (cs : List Nat) (t : List (Option Nat)) : (cs.filterMap fun c => if c ≤ t.length then some (enO (t.getD (t.length - c) none)) else none).filterMap (fun x => if isNoneD x = true then none else some x) = (waysI cs t).map .int := by
  unfold waysI
  rw [List.filterMap_filterMap, List.map_map, List.map_filterMap]
  congr 1
  funext c
  unfold wayO
  by_cases h : c ≤ t.length
  · rw [if_pos h, if_pos h]
    cases e : t.getD (t.length - c) none <;> rfl
  · rw [if_neg h, if_neg h]; rfl
theorem min_of {ws : List Nat} (h : ws ≠ []) : ∃ k, mini ws = some k ∧ minI (ws.map fun (k : Nat) => (k : Int)) + 1 = k := by
  cases e : mini ws with
  | none => exact absurd (mini_none e) h
  | some k =>
    obtain ⟨x, hx, rfl, hm⟩ := mini_some e
    obtain ⟨a, b⟩ := minI_spec (l := ws.map fun (k : Nat) => (k : Int)) (by simpa using h)
    refine ⟨_, rfl, ?_⟩
    obtain ⟨y, hy, ey⟩ := List.mem_map.mp a
    have h1 := b (x : Int) (List.mem_map.mpr ⟨x, hx, rfl⟩)
    have h2 := hm y hy
    omega
theorem intsD_of (ns : List Int) : minLD (.list (ns.map .int)) = if ns ≠ [] then some (.int (minI ns)) else none := by
  show (intsD (ns.map PyData.int)).bind _ = _
  rw [intsD_map]; rfl
/-- the value that the next place gets -/
theorem next_val {cs : List Nat} {t : List (Option Nat)} {ws : List Int} (hw : ws = waysI cs t) :
    (ws.isEmpty = true → nxt cs t = none) ∧ (ws.isEmpty = false → minLD (.list (ws.map .int)) = some (.int (minI ws)) ∧ enO (nxt cs t) = .int (1 + minI ws)) := by
  subst hw
  unfold nxt waysI
  refine ⟨fun h => ?_, fun h => ?_⟩
  · have e : cs.filterMap (wayO t) = [] := by simpa using h
    rw [e]; rfl
  · have e : cs.filterMap (wayO t) ≠ [] := fun z => by rw [z] at h; cases h
    obtain ⟨k, e1, e2⟩ := min_of e
    rw [intsD_of, if_pos (by simpa using e), e1]
    refine ⟨rfl, ?_⟩
    show PyData.int (k : Int) = _
    rw [← e2]
    congr 1
    omega
theorem law_turn {cs : List Nat} {t : List (Option Nat)} {v3 v4 n : Option Slot} (hc : Coins cs) (ht : t.length < 1000000) (h3 : NT v3) (h4 : NT v4) : ∃ η1 η2, gV 3 (.int (t.length : Int)) [some (.val (.tuple (enC cs))), n, some (.own false (enT t)), v3, v4, none, none] = some η1 ∧
    (mSeq (mAsgL (mComp (mIter (mVar 0)) (gV 5) (mTru boolD (mOp leD (mVar 5) (mVar 3))) (mOpV ixD 2 (mOp subD (mVar 3) (mVar 5))) [5]) 4)
    (mSeq (mAsgL (mComp (mIter (mVar 4)) (gV 6) (mTru boolD (mOp isnD (mVar 6) (mPure .none))) (mVar 6) [6]) 4)
    (mDrop (mMeth appendD 2 (mCons (mIf (mTru boolD (mOpV neD 4 (mFz (mCaL (fun xs => if xs.length ≤ sizeLine then some xs else none) mNil)))) (mOp addD (mPure (.int 1)) (mUn minLD (mBor 4))) (mPure .none)) mNil))))) η1 = some (.ok .nx, η2) ∧
    ∃ v3 v4, NT v3 ∧ NT v4 ∧ η2 = [some (.val (.tuple (enC cs))), n, some (.own false (enT (t ++ [nxt cs t]))), v3, v4, none, none] := by
  refine ⟨[some (.val (.tuple (enC cs))), n, some (.own false (enT t)), some (.val (.int (t.length : Int))), v4, none, none], [some (.val (.tuple (enC cs))), n, some (.own false (enT (t ++ [nxt cs t]))), some (.val (.int (t.length : Int))), some (.own false ((waysI cs t).map .int)), none, none], ?_, ?_, ?_⟩
  · exact stO_eq fun ds e => h3 ds (Option.some.inj e)
  · apply s_seq
    · apply s_asgL
      · exact law_ways (a := n) (b := v4) (d := none) (e := none) hc rfl
      · exact stO_eq fun ds e => h4 ds (Option.some.inj e)
    -- those that are not None
    have key := comp_map (gm := gV 6) (mt := mTru boolD (mOp isnD (mVar 6) (mPure .none))) (m := mVar 6) (vs := [6])
      (η := [some (.val (.tuple (enC cs))), n, some (.own false (enT t)), some (.val (.int (t.length : Int))), some (.val (.list (cs.filterMap fun c => if c ≤ t.length then some (enO (t.getD (t.length - c) none)) else none))), none, none])
      (f := fun x => if isNoneD x = true then none else some x) rfl (cs.filterMap fun c => if c ≤ t.length then some (enO (t.getD (t.length - c) none)) else none) [] (by
        have := List.length_filterMap_le (fun c => if c ≤ t.length then some (enO (t.getD (t.length - c) none)) else none) cs
        have := hc.five
        rw [List.length_nil, line_eq]; omega) (fun x hx => by
        refine ⟨_, rfl, ?_⟩
        cases hb : isNoneD x with
        | true => exact .inr ⟨if_pos rfl, _, e_tru (e_op (e_var rfl) e_pure (show isnD x .none = some (.bool false) by unfold isnD; rw [hb]; rfl)) rfl, rfl⟩
        | false => exact .inl ⟨_, x, if_neg (by simp), e_tru (e_op (e_var rfl) e_pure (show isnD x .none = some (.bool true) by unfold isnD; rw [hb]; rfl)) rfl, _, e_var rfl, rfl⟩)
    rw [ways_two, List.nil_append] at key
    apply s_seq
    · apply s_asgL
      · exact e_comp (e_iter (e_varO rfl) rfl) key
      · rfl
    obtain ⟨n1, n2⟩ := next_val (cs := cs) (t := t) rfl
    have hneq : neD (.list ((waysI cs t).map .int)) (.list []) = some (.bool (!((waysI cs t).map PyData.int).isEmpty)) := neD_nil (shaped_ints _)
    have hem : ((waysI cs t).map PyData.int).isEmpty = (waysI cs t).isEmpty := by cases waysI cs t <;> rfl
    rw [hem] at hneq
    have hap : appendD (enT t) [enO (nxt cs t)] = some (.none, enT (t ++ [nxt cs t])) := by
      show (if (enT t).length < sizeLine then _ else _) = _
      rw [if_pos (by unfold enT; rw [List.length_map, line_eq]; omega)]
      unfold enT
      rw [List.map_append]; rfl
    refine (s_drop (e_meth (η1 := [some (.val (.tuple (enC cs))), n, some (.own false (enT t)), some (.val (.int (t.length : Int))), some (.own false ((waysI cs t).map .int)), none, none]) (zs := enT (t ++ [nxt cs t])) (xs := [enO (nxt cs t)]) rfl (e_cons ?_ e_nil) rfl hap)).trans rfl
    cases hb : (waysI cs t).isEmpty with
    | true =>
      rw [hb] at hneq
      rw [n1 hb]
      exact e_ifF (e_tru (e_opV (e_borO rfl) (e_fz (e_caL e_nil (if_pos (Nat.zero_le _)))) (e_borO rfl) hneq) rfl) rfl e_pure
    | false =>
      rw [hb] at hneq
      obtain ⟨a, b⟩ := n2 hb
      rw [b]
      exact e_ifT (e_tru (e_opV (e_borO rfl) (e_fz (e_caL e_nil (if_pos (Nat.zero_le _)))) (e_borO rfl) hneq) rfl) rfl (e_op e_pure (e_un (e_borO rfl) a) addD_e)
  · exact ⟨_, _, (fun ds e => by cases e), (fun ds e => by cases e), rfl⟩
end G44
end
section
set_option Elab.async false
set_option linter.all false
set_option maxRecDepth 100000
namespace G44
open PySem L2 L2.DL P44
set_option autoImplicit false
theorem rng_get {lo : Int} {n k : Nat} {x : PyData} (h : (rngL lo n)[k]? = some x) : k < n ∧ x = .int (lo + (k : Int)) := by
  unfold rngL at h
  rw [List.getElem?_map] at h
  obtain ⟨i, e, rfl⟩ := Option.map_eq_some_iff.mp h
  have hk : k < n := by have := (List.getElem?_eq_some_iff.mp e).1; simpa using this
  rw [List.getElem?_range hk] at e
  cases e
  exact ⟨hk, rfl⟩
theorem rng_len {lo : Int} {n : Nat} : (rngL lo n).length = n := by unfold rngL; simp
theorem range2 {i j : Int} (h1 : -1000000000 < i) (h2 : i < 1000000000) (h3 : -1000000000 < j) (h4 : j < 1000000000) : rangeD [.int i, .int j] = some (rngL i (j - i).toNat) := if_pos ⟨⟨by omega, by omega⟩, ⟨by omega, by omega⟩⟩
theorem range1 {j : Int} (h3 : -1000000000 < j) (h4 : j < 1000000000) : rangeD [.int j] = some (rngL 0 j.toNat) := if_pos ⟨by omega, by omega⟩
theorem law_fewest {cs : List Nat} {n : Nat} (hc : Coins cs) (hn : n < 900000) : fnV F__law_fewest [.tuple (enC cs), .int (n : Int)] = some (.ok (.l (enT (tab cs n)))) := by
  obtain ⟨η', hl, v3, v4, h3, h4, rfl⟩ := loop_inv (xs := rngL 1 ((n : Int) + 1 - 1).toNat) (fun k η => ∃ v3 v4, NT v3 ∧ NT v4 ∧ η = [some (.val (.tuple (enC cs))), some (.val (.int (n : Int))), some (.own false (enT (tab cs k))), v3, v4, none, none])
    (fun k x η hx ⟨v3, v4, h3, h4, hη⟩ => by
      obtain ⟨hk, rfl⟩ := rng_get hx
      subst hη
      have hl := tab_len (cs := cs) k
      have e : (1 : Int) + (k : Int) = ((tab cs k).length : Int) := by omega
      rw [e]
      have := law_turn (n := some (.val (.int (n : Int)))) hc (t := tab cs k) (by omega) h3 h4
      exact this)
    (η := [some (.val (.tuple (enC cs))), some (.val (.int (n : Int))), some (.own false (enT (tab cs 0))), none, none, none, none]) ⟨none, none, (fun ds e => by cases e), (fun ds e => by cases e), rfl⟩
  rw [rng_len] at hl
  have en : ((n : Int) + 1 - 1).toNat = n := by omega
  rw [en] at hl
  refine fnV_of (η1 := [none, none]) ?_
  unfold F__law_fewest m__law_fewest
  walk_at "dl frun"
  · apply s_seq
    · exact s_asgL (e_caL (e_cons e_pure e_nil) (if_pos (by rw [line_eq]; decide))) rfl
    apply s_seq
    · refine s_for (e_gIt (e_cons e_pure (e_cons (e_op (e_var rfl) e_pure addD_e) e_nil)) (range2 (by omega) (by omega) (by omega) (by omega))) ?_
      rw [en]
      exact hl
    · exact s_retVO rfl
  · rfl
/-! ### the program's table -/
theorem isn_enO (o : Option Nat) : isnD (enO o) .none = some (.bool o.isSome) := by cases o <;> rfl
theorem is_enO (o : Option Nat) : isD (enO o) .none = some (.bool o.isNone) := by cases o <;> rfl
/-- what is found behind t's last, not yet known places None -/
def part (t : List (Option Nat)) (m : Nat) : List PyData := enT t ++ List.replicate m .none
theorem part_get {t : List (Option Nat)} {m i : Nat} (h : i < t.length) : (part t m)[i]? = some (enO (t.getD i none)) := by
  unfold part
  rw [List.getElem?_append_left (by unfold enT; rw [List.length_map]; exact h)]
  exact enT_get h
theorem part_set {t : List (Option Nat)} {m : Nat} {o : Option Nat} : (part t (m + 1)).set t.length (enO o) = part (t ++ [o]) m := by
  unfold part
  have hl : (enT t).length = t.length := by unfold enT; rw [List.length_map]
  rw [List.set_append_right _ _ (by omega), hl, Nat.sub_self, List.replicate_succ, List.set_cons_zero]
  unfold enT
  rw [List.map_append, List.append_assoc]; rfl
theorem part_none {t : List (Option Nat)} {m : Nat} : part t (m + 1) = part (t ++ [none]) m := by
  unfold part enT
  rw [List.map_append, List.append_assoc, List.replicate_succ]; rfl
theorem part_len {t : List (Option Nat)} {m : Nat} : (part t m).length = t.length + m := by unfold part enT; simp
theorem part_zero {t : List (Option Nat)} : part t 0 = enT t := by unfold part; simp
theorem ways_prog (cs : List Nat) (t : List (Option Nat)) : (cs.filterMap fun c => if c ≤ t.length then (t.getD (t.length - c) none).map fun (k : Nat) => PyData.int (k : Int) else none) = (waysI cs t).map .int := by
  unfold waysI
  rw [List.map_map, List.map_filterMap]
  congr 1
  funext c
  unfold wayO
  by_cases h : c ≤ t.length
  · rw [if_pos h, if_pos h]; rfl
  · rw [if_neg h, if_neg h]; rfl
theorem prog_ways {cs : List Nat} {t : List (Option Nat)} {m : Nat} {n v4 : Option Slot} (hc : Coins cs) :
    mComp (mIter (mVar 0)) (gV 5) (mAnd (mTru boolD (mOp leD (mVar 5) (mVar 3))) (mTru boolD (mOp isnD (mOpV ixD 2 (mOp subD (mVar 3) (mVar 5))) (mPure .none)))) (mOpV ixD 2 (mOp subD (mVar 3) (mVar 5))) [5]
      [some (.val (.tuple (enC cs))), n, some (.own false (part t m)), some (.val (.int (t.length : Int))), v4, none] = some (.ok ((waysI cs t).map .int), [some (.val (.tuple (enC cs))), n, some (.own false (part t m)), some (.val (.int (t.length : Int))), v4, none]) := by
  have key := comp_map (gm := gV 5) (mt := mAnd (mTru boolD (mOp leD (mVar 5) (mVar 3))) (mTru boolD (mOp isnD (mOpV ixD 2 (mOp subD (mVar 3) (mVar 5))) (mPure .none)))) (m := mOpV ixD 2 (mOp subD (mVar 3) (mVar 5))) (vs := [5])
    (η := [some (.val (.tuple (enC cs))), n, some (.own false (part t m)), some (.val (.int (t.length : Int))), v4, none])
    (f := fun x => match x with | .int c => if c.toNat ≤ t.length then (t.getD (t.length - c.toNat) none).map fun (k : Nat) => PyData.int (k : Int) else none | _ => none) rfl (enC cs) [] (by
      rw [List.length_nil, enC_len, line_eq]; have := hc.five; omega) (fun x hx => by
      obtain ⟨c, hcm, rfl⟩ := List.mem_map.mp hx
      have hc1 := hc.le c hcm
      refine ⟨_, rfl, ?_⟩
      by_cases h : c ≤ t.length
      · have hix : ixD (.list (part t m)) (.int ((t.length : Int) - (c : Int))) = some (enO (t.getD (t.length - c) none)) := by
          refine ixD_i (by omega) ?_
          have e : ((t.length : Int) - (c : Int)).toNat = t.length - c := by omega
          rw [e]
          exact part_get (by omega)
        have hv : ∀ η : EnvD, η = [some (.val (.tuple (enC cs))), n, some (.own false (part t m)), some (.val (.int (t.length : Int))), v4, some (.val (.int (c : Int)))] → mOpV ixD 2 (mOp subD (mVar 3) (mVar 5)) η = some (.ok (enO (t.getD (t.length - c) none)), η) := fun η e => by
          subst e
          exact e_opV (e_borO rfl) (e_op (e_var rfl) (e_var rfl) subD_e) (e_borO rfl) hix
        have hle : mTru boolD (mOp leD (mVar 5) (mVar 3)) [some (.val (.tuple (enC cs))), n, some (.own false (part t m)), some (.val (.int (t.length : Int))), v4, some (.val (.int (c : Int)))] = some (.ok true, [some (.val (.tuple (enC cs))), n, some (.own false (part t m)), some (.val (.int (t.length : Int))), v4, some (.val (.int (c : Int)))]) :=
          e_tru (e_op (e_var rfl) (e_var rfl) leD_e) (by rw [decide_eq_true (by omega)]; rfl)
        cases e : t.getD (t.length - c) none with
        | none =>
          rw [e] at hv
          refine .inr ⟨?_, _, e_andT hle rfl (e_tru (e_op (hv _ rfl) e_pure (isn_enO none)) rfl), rfl⟩
          show (if (c : Int).toNat ≤ _ then _ else _) = _
          rw [Int.toNat_natCast, if_pos h, e]; rfl
        | some k =>
          rw [e] at hv
          refine .inl ⟨_, .int (k : Int), ?_, e_andT hle rfl (e_tru (e_op (hv _ rfl) e_pure (isn_enO (some k))) rfl), _, hv _ rfl, rfl⟩
          show (if (c : Int).toNat ≤ _ then _ else _) = _
          rw [Int.toNat_natCast, if_pos h, e]; rfl
      · refine .inr ⟨?_, _, e_andF (e_tru (e_op (e_var rfl) (e_var rfl) leD_e) (show boolD (.bool (decide ((c : Int) ≤ t.length))) = some false by rw [decide_eq_false (by omega)]; rfl)) rfl, rfl⟩
        show (if (c : Int).toNat ≤ _ then _ else _) = _
        rw [Int.toNat_natCast, if_neg h])
  refine (e_comp (e_iter (e_var rfl) rfl) key).trans ?_
  rw [List.nil_append, ← ways_prog]
  unfold enC
  rw [List.filterMap_map]
  rfl
theorem prog_turn {cs : List Nat} {t : List (Option Nat)} {m : Nat} {v3 v4 n : Option Slot} (hc : Coins cs) (h3 : NT v3) (h4 : NT v4) : ∃ η1 η2, gV 3 (.int (t.length : Int)) [some (.val (.tuple (enC cs))), n, some (.own false (part t (m + 1))), v3, v4, none] = some η1 ∧
    (mSeq (mAsgL (mComp (mIter (mVar 0)) (gV 5) (mAnd (mTru boolD (mOp leD (mVar 5) (mVar 3))) (mTru boolD (mOp isnD (mOpV ixD 2 (mOp subD (mVar 3) (mVar 5))) (mPure .none)))) (mOpV ixD 2 (mOp subD (mVar 3) (mVar 5))) [5]) 4)
    (mIfS (mTru boolD (mOpV neD 4 (mFz (mCaL (fun xs => if xs.length ≤ sizeLine then some xs else none) mNil)))) (mSetIx 2 (mOp addD (mPure (.int 1)) (mUn minLD (mBor 4))) (mVar 3)) (mPure .nx))) η1 = some (.ok .nx, η2) ∧
    ∃ v3 v4, NT v3 ∧ NT v4 ∧ η2 = [some (.val (.tuple (enC cs))), n, some (.own false (part (t ++ [nxt cs t]) m)), v3, v4, none] := by
  refine ⟨[some (.val (.tuple (enC cs))), n, some (.own false (part t (m + 1))), some (.val (.int (t.length : Int))), v4, none], [some (.val (.tuple (enC cs))), n, some (.own false (part (t ++ [nxt cs t]) m)), some (.val (.int (t.length : Int))), some (.own false ((waysI cs t).map .int)), none], ?_, ?_, ?_⟩
  · exact stO_eq fun ds e => h3 ds (Option.some.inj e)
  · apply s_seq
    · exact s_asgL (prog_ways (n := n) (v4 := v4) hc) (stO_eq fun ds e => h4 ds (Option.some.inj e))
    obtain ⟨n1, n2⟩ := next_val (cs := cs) (t := t) rfl
    have hneq : neD (.list ((waysI cs t).map .int)) (.list []) = some (.bool (!((waysI cs t).map PyData.int).isEmpty)) := neD_nil (shaped_ints _)
    have hem : ((waysI cs t).map PyData.int).isEmpty = (waysI cs t).isEmpty := by cases waysI cs t <;> rfl
    rw [hem] at hneq
    cases hb : (waysI cs t).isEmpty with
    | true =>
      rw [hb] at hneq
      rw [n1 hb]
      refine (s_ifF (e_tru (e_opV (e_borO rfl) (e_fz (e_caL e_nil (if_pos (Nat.zero_le _)))) (e_borO rfl) hneq) rfl) rfl e_pure).trans ?_
      rw [← part_none]; rfl
    | false =>
      rw [hb] at hneq
      obtain ⟨a, b⟩ := n2 hb
      refine (s_ifT (e_tru (e_opV (e_borO rfl) (e_fz (e_caL e_nil (if_pos (Nat.zero_le _)))) (e_borO rfl) hneq) rfl) rfl (s_setIx (n := t.length) (e_op e_pure (e_un (e_borO rfl) a) addD_e) rfl (e_var rfl) rfl ?_)).trans ?_
      · unfold ixN
        rw [part_len, if_pos (by omega), if_pos (by omega), Int.toNat_natCast]
      · rw [← b, part_set]; rfl
  · exact ⟨_, _, (fun ds e => by cases e), (fun ds e => by cases e), rfl⟩
theorem fewest_to {cs : List Nat} {n : Nat} (hc : Coins cs) (hn : n < 900000) : fnV F_fewest_to [.tuple (enC cs), .int (n : Int)] = some (.ok (.l (enT (tab cs n)))) := by
  obtain ⟨η', hl, hI⟩ := loop_inv (xs := rngL 1 ((n : Int) + 1 - 1).toNat) (fun k η => k ≤ n → ∃ v3 v4, NT v3 ∧ NT v4 ∧ η = [some (.val (.tuple (enC cs))), some (.val (.int (n : Int))), some (.own false (part (tab cs k) (n - k))), v3, v4, none])
    (fun k x η hx hI => by
      obtain ⟨hk, rfl⟩ := rng_get hx
      obtain ⟨v3, v4, h3, h4, hη⟩ := hI (by omega)
      subst hη
      have hl := tab_len (cs := cs) k
      have e : (1 : Int) + (k : Int) = ((tab cs k).length : Int) := by omega
      rw [e]
      have e2 : n - k = (n - (k + 1)) + 1 := by omega
      rw [e2]
      obtain ⟨η1, η2, a, b, c⟩ := prog_turn (n := some (.val (.int (n : Int)))) (m := n - (k + 1)) hc (t := tab cs k) h3 h4
      exact ⟨η1, η2, a, b, fun _ => c⟩)
    (η := [some (.val (.tuple (enC cs))), some (.val (.int (n : Int))), some (.own false (part (tab cs 0) n)), none, none, none]) (fun _ => ⟨none, none, (fun ds e => by cases e), (fun ds e => by cases e), by rw [Nat.sub_zero]⟩)
  have en : ((n : Int) + 1 - 1).toNat = n := by omega
  rw [rng_len, en] at hI
  obtain ⟨v3, v4, h3, h4, rfl⟩ := hI (Nat.le_refl n)
  rw [Nat.sub_self, part_zero] at hl
  rw [en] at hl
  have hrep : ∀ k : Nat, (List.replicate k [PyData.none]).flatten = List.replicate k PyData.none := fun k => by
    induction k with
    | zero => rfl
    | succ k ih => rw [List.replicate_succ, List.flatten_cons, ih, List.replicate_succ]; rfl
  have hmul : mulD (.list [.none]) (.int (n : Int)) = some (.list (List.replicate n .none)) := by
    unfold mulD
    simp only
    rw [if_pos ⟨by omega, by omega, by rw [line_eq, Int.toNat_natCast]; simp; omega⟩, Int.toNat_natCast, hrep]
  have hcat : catD (.list [.int 0]) (.list (List.replicate n .none)) = some (part (tab cs 0) n) := by
    unfold catD
    simp only
    rw [if_pos (by rw [line_eq, List.length_replicate]; simp; omega)]
    rfl
  refine fnV_of (η1 := [none, none]) ?_
  unfold F_fewest_to m_fewest_to
  walk_at "dl frun"
  · apply s_seq
    · apply s_asgL
      · apply e_opL
        · exact e_fz (e_caL (e_cons e_pure e_nil) (if_pos (by rw [line_eq]; decide)))
        · apply e_op
          · exact e_fz (e_caL (e_cons e_pure e_nil) (if_pos (by rw [line_eq]; decide)))
          · exact e_var rfl
          · exact hmul
        · exact hcat
      · rfl
    apply s_seq
    · refine s_for (e_gIt (e_cons e_pure (e_cons (e_op (e_var rfl) e_pure addD_e) e_nil)) (range2 (by omega) (by omega) (by omega) (by omega))) ?_
      rw [en]
      exact hl
    · exact s_retVO rfl
  · rfl
end G44
end
section
set_option Elab.async false
set_option linter.all false
set_option maxRecDepth 100000
namespace G44
open PySem L2 L2.DL P44
set_option autoImplicit false
theorem comp_all {η : EnvD} {gm : PyData → EnvD → Option EnvD} {m : MX PyData} {vs : List Nat} {f : PyData → PyData} (hη : wipeE vs η = η) (items : List PyData) (hl : items.length ≤ sizeLine) (h : ∀ x ∈ items, ∃ η1, gm x η = some η1 ∧ ∃ η3, m η1 = some (.ok (f x), η3) ∧ wipeE vs η3 = η) :
    compM gm (mPure true) m vs items [] η = some (.ok (items.map f), η) := by
  have := comp_map (mt := mPure true) (f := fun x => some (f x)) hη items [] (by simpa using hl) (fun x hx => by
    obtain ⟨η1, e1, η3, e3, e4⟩ := h x hx
    exact ⟨η1, e1, .inl ⟨η1, f x, rfl, rfl, η3, e3, e4⟩⟩)
  rw [List.nil_append] at this
  rw [this]
  congr 3
  induction items with
  | nil => rfl
  | cons x xs ih => simp
theorem allD_true (l : List PyData) : allD (.list (l.map fun _ => .bool true)) = some (.bool true) := by
  have e : l.map (fun _ => PyData.bool true) = (List.replicate l.length true).map PyData.bool := by
    rw [List.map_replicate, List.map_const']
  show (boolsD _).map _ = _
  rw [e, boolsD_map]
  simp
theorem i_ii {i : Int} : isiD "int" (.int i) = some (.bool true) := rfl
theorem i_bi {i : Int} : isiD "bool" (.int i) = some (.bool false) := rfl
theorem i_li {i : Int} : isiD "list" (.int i) = some (.bool false) := rfl
theorem i_ti {i : Int} : isiD "tuple" (.int i) = some (.bool false) := rfl
theorem i_lt {ds : List PyData} : isiD "list" (.tuple ds) = some (.bool false) := rfl
theorem i_tt {ds : List PyData} : isiD "tuple" (.tuple ds) = some (.bool true) := rfl
theorem len_t {ds : List PyData} : lenD (.tuple ds) = some (.int (ds.length : Nat)) := rfl
theorem len_l {ds : List PyData} : lenD (.list ds) = some (.int (ds.length : Nat)) := rfl
theorem tru_b {b : Bool} : truD (.bool b) = some b := rfl
theorem tup_l {ds : List PyData} : tupD (.list ds) = some (.tuple ds) := rfl
theorem tup_t {ds : List PyData} : tupD (.tuple ds) = some (.tuple ds) := rfl
theorem it_t {ds : List PyData} : itemsD (.tuple ds) = some ds := rfl
theorem it_l {ds : List PyData} : itemsD (.list ds) = some ds := rfl
theorem zip_t {ds es : List PyData} : zipD [.tuple ds, .tuple es] = some ((ds.zip es).map fun p => .tuple [p.1, p.2]) := rfl
theorem is_integer (i : Int) : fnV F_is_integer [.int i] = some (.ok (.d (.bool true))) := by
  refine fnV_of (η1 := [none]) ?_
  unfold F_is_integer m_is_integer
  walk_at "dl frun"
  · exact s_ret (e_andVT (e_un (e_var rfl) i_ii) rfl (e_notV (e_un (e_var rfl) i_bi)))
  · rfl
theorem is_between {i : Int} (h1 : 1 ≤ i) (h2 : i ≤ 60) : fnV F_is_between [.int i, .int 1, .int 60] = some (.ok (.d (.bool true))) := by
  refine fnV_of (η1 := [none, none, none]) ?_
  unfold F_is_between m_is_between
  walk_at "dl frun"
  · exact s_ret (e_andVT (e_call (e_cons (e_var rfl) e_nil) (is_integer i)) rfl (e_chainT (e_var rfl) (e_var rfl) leD_e (decide_eq_true h1) (e_var rfl) leD_e))
  · show _ = some (R.ok (RV.d (.bool true)), _)
    rw [decide_eq_true h2]; rfl
theorem zip_up : ∀ {cs : List Nat}, cs.Pairwise (· < ·) → ∀ x ∈ ((enC cs).zip ((enC cs).drop 1)).map (fun p => PyData.tuple [p.1, p.2]), ∃ a b : Int, x = .tuple [.int a, .int b] ∧ a < b
  | [], _, x, h => by cases h
  | [c], _, x, h => by simp [enC] at h
  | c :: d :: cs, hp, x, h => by
    have h1 := List.pairwise_cons.mp hp
    have e : ((enC (c :: d :: cs)).zip ((enC (c :: d :: cs)).drop 1)).map (fun p => PyData.tuple [p.1, p.2]) = .tuple [.int (c : Int), .int (d : Int)] :: ((enC (d :: cs)).zip ((enC (d :: cs)).drop 1)).map (fun p => PyData.tuple [p.1, p.2]) := rfl
    rw [e] at h
    rcases List.mem_cons.mp h with z | z
    · exact ⟨c, d, z, by have := h1.1 d List.mem_cons_self; omega⟩
    · exact zip_up h1.2 x z
theorem are_coins {cs : List Nat} (hc : Coins cs) : fnV F_are_coins [.tuple (enC cs)] = some (.ok (.d (.bool true))) := by
  have hlen := enC_len cs
  have h5 := hc.five
  have h0 : 1 ≤ cs.length := List.length_pos_iff.mpr hc.ne
  have k1 := comp_all (η := [some (.val (.tuple (enC cs))), none, none, none]) (gm := gV 1) (m := mCall (fnV F_is_between) (mCons (mVar 1) (mCons (mPure (.int 1)) (mCons (mPure (.int 60)) mNil)))) (vs := [1]) (f := fun _ => .bool true) rfl (enC cs) (by rw [hlen, line_eq]; omega) (fun x hx => by
    obtain ⟨c, hcm, rfl⟩ := List.mem_map.mp hx
    have := hc.le c hcm
    exact ⟨_, rfl, _, e_call (e_cons (e_var rfl) (e_cons e_pure (e_cons e_pure e_nil))) (is_between (by omega) (by omega)), rfl⟩)
  have k2 := comp_all (η := [some (.val (.tuple (enC cs))), none, none, none]) (gm := gTupD 2 (gConsD (gV 2) (gConsD (gV 3) gNilD))) (m := mOp ltD (mVar 2) (mVar 3)) (vs := [2, 3]) (f := fun _ => .bool true) rfl (((enC cs).zip ((enC cs).drop 1)).map fun p => PyData.tuple [p.1, p.2]) (by
      rw [List.length_map, List.length_zip, hlen, line_eq]; omega) (fun x hx => by
    obtain ⟨a, b, rfl, hab⟩ := zip_up hc.up x hx
    refine ⟨_, rfl, _, e_op (e_var rfl) (e_var rfl) ?_, rfl⟩
    show some (PyData.bool (decide (a < b))) = _
    rw [decide_eq_true hab])
  have hcut : slD (.tuple (enC cs)) (some 1) none = some (.tuple ((enC cs).drop 1)) := by
    show some (PyData.tuple (cutD (enC cs) (some 1) none)) = _
    congr 2
    unfold cutD
    have e1 : HT.sIx (enC cs).length 0 (some 1) = 1 := by
      show (if (1 : Int) < 0 then ((1 : Int) + ((enC cs).length : Int)).toNat else min (1 : Int).toNat (enC cs).length) = 1
      rw [if_neg (by omega), hlen]
      show min 1 cs.length = 1
      omega
    have e2 : HT.sIx (enC cs).length (enC cs).length none = (enC cs).length := rfl
    rw [e1, e2]
    exact List.take_of_length_le (by rw [List.length_drop]; exact Nat.le_refl _)
  refine fnV_of (η1 := [none]) ?_
  unfold F_are_coins m_are_coins
  walk_at "dl frun"
  · apply s_seq
    · refine s_ifF (e_orF (b := false) (e_notT (e_tru (b := true) (e_un (e_var rfl) i_tt) tru_b)) rfl (e_notT (e_tru (b := true) (e_chainT e_pure (e_un (e_var rfl) len_t) leD_e ?_ e_pure leD_e) ?_))) rfl e_pure
      · rw [hlen]; exact decide_eq_true (by omega)
      · show some (decide (((enC cs).length : Int) ≤ 5)) = some true
        rw [hlen, decide_eq_true (by omega)]
    apply s_seq
    · refine s_ifF (e_notT (e_tru (b := true) (e_un (e_fz (e_comp (e_iter (e_var rfl) it_t) k1)) (allD_true _)) tru_b)) rfl e_pure
    · exact s_ret (e_un (e_fz (e_comp (e_gIt (e_cons (e_var rfl) (e_cons (e_sl (e_var rfl) (e_part e_pure) e_partN hcut) e_nil)) zip_t) k2)) (allD_true _))
  · rfl
theorem anew_int (k : Nat) (i : Int) : fnV (F_anew (k + 1)) [.int i] = some (.ok (.d (.int i))) := by
  refine fnV_of (η1 := [none]) ?_
  unfold F_anew m_anew
  walk_at "dl frun"
  · apply s_seq
    · exact s_ifF (b := false) (e_tru (e_un (e_var rfl) i_li) tru_b) rfl e_pure
    apply s_seq
    · exact s_ifF (b := false) (e_tru (e_un (e_var rfl) i_ti) tru_b) rfl e_pure
    · exact s_retV rfl
  · rfl
theorem anew_coins {cs : List Nat} (hc : Coins cs) : fnV (F_anew LV) [.tuple (enC cs)] = some (.ok (.d (.tuple (enC cs)))) := by
  have k1 := comp_all (η := [some (.val (.tuple (enC cs))), none]) (gm := gV 1) (m := mCall (fnV (F_anew 2)) (mCons (mVar 1) mNil)) (vs := [1]) (f := fun x => x) rfl (enC cs) (by rw [enC_len, line_eq]; have := hc.five; omega) (fun x hx => by
    obtain ⟨c, hcm, rfl⟩ := List.mem_map.mp hx
    exact ⟨_, rfl, _, e_call (e_cons (e_var rfl) e_nil) (anew_int 1 c), rfl⟩)
  rw [List.map_id'] at k1
  refine fnV_of (η1 := [none]) ?_
  show F_anew (2 + 1) _ = _
  unfold F_anew m_anew
  walk_at "dl frun"
  · apply s_seq
    · exact s_ifF (b := false) (e_tru (e_un (e_var rfl) i_lt) tru_b) rfl e_pure
    apply s_seqR
    exact s_ifT (b := true) (e_tru (e_un (e_var rfl) i_tt) tru_b) rfl (s_ret (e_un (e_fz (e_comp (e_iter (e_var rfl) it_t) k1)) tup_l))
  · rfl
theorem need_coins {cs : List Nat} (hc : Coins cs) : fnV F_need_coins [.tuple (enC cs)] = some (.ok (.d .none)) := by
  refine fnV_of (η1 := [none]) ?_
  unfold F_need_coins m_need_coins
  walk_at "dl frunN"
  · exact s_ifF (b := false) (e_notT (b := true) (e_tru (e_call (e_cons (e_var rfl) e_nil) (are_coins hc)) tru_b)) rfl e_pure
  · rfl
end G44
end
section
set_option Elab.async false
set_option linter.all false
set_option maxRecDepth 100000
namespace G44
open PySem L2 L2.DL P44
set_option autoImplicit false
theorem neg1 : negD (.int 1) = some (.int (-1)) := rfl
theorem atI_last {ds : List PyData} {z : PyData} (h : ds[ds.length - 1]? = some z) : atI ds (-1) = some z := by
  have hl := (List.getElem?_eq_some_iff.mp h).1
  unfold atI ixN
  rw [if_neg (by omega), if_pos (by omega)]
  have e : (-1 + (ds.length : Int)).toNat = ds.length - 1 := by omega
  show ds[(-1 + (ds.length : Int)).toNat]? = _
  rw [e]; exact h
theorem ix_tl {ds : List PyData} {z : PyData} (h : ds[ds.length - 1]? = some z) : ixD (.tuple ds) (.int (-1)) = some z := atI_last h
theorem ix_ll {ds : List PyData} {z : PyData} (h : ds[ds.length - 1]? = some z) : ixD (.list ds) (.int (-1)) = some z := atI_last h
/-- the greatest coin -/
structure Top (cs : List Nat) (g : Nat) : Prop where
  mem : g ∈ cs
  le : ∀ c ∈ cs, c ≤ g
  ix : ixD (.tuple (enC cs)) (.int (-1)) = some (.int (g : Int))
  one : 1 ≤ g
  sixty : g ≤ 60
theorem top_of {cs : List Nat} (hc : Coins cs) : ∃ g, Top cs g := by
  have hl : cs.length - 1 < cs.length := by have := List.length_pos_iff.mpr hc.ne; omega
  refine ⟨cs[cs.length - 1], List.getElem_mem hl, fun c hm => ?_, ix_tl ?_, (hc.le _ (List.getElem_mem hl)).1, (hc.le _ (List.getElem_mem hl)).2⟩
  · obtain ⟨i, hi, rfl⟩ := List.getElem_of_mem hm
    by_cases e : i = cs.length - 1
    · subst e; exact Nat.le_refl _
    · exact Nat.le_of_lt (List.pairwise_iff_getElem.mp hc.up i (cs.length - 1) hi hl (by omega))
  · rw [enC_len]
    unfold enC
    rw [List.getElem?_map, List.getElem?_eq_getElem hl]
    rfl
theorem tab_last (cs : List Nat) (n : Nat) : (enT (tab cs n))[(enT (tab cs n)).length - 1]? = some (enO (best cs n)) := by
  have e : (enT (tab cs n)).length - 1 = n := by unfold enT; rw [List.length_map, tab_len]; omega
  rw [e]
  exact enT_get (by rw [tab_len]; omega)
theorem enO_add (o : Option Nat) (t : Nat) (h : o ≠ none) : addD (enO o) (.int (t : Int)) = some (enO (o.map (· + t))) := by
  cases o with
  | none => exact absurd rfl h
  | some k => show some (PyData.int ((k : Int) + (t : Int))) = some (PyData.int ((k + t : Nat) : Int)); rw [Int.natCast_add]
theorem least_count {cs : List Nat} (hc : Coins cs) (n : Nat) : fnV F_least_count [.tuple (enC cs), .int (n : Int)] = some (.ok (.d (enO (best cs n)))) := by
  obtain ⟨g, tp⟩ := top_of hc
  have g1 := tp.one
  have g2 := tp.sixty
  -- the bound
  have hB : ((g : Int) - 1) * ((g : Int) - 1) = (((g - 1) * (g - 1) : Nat) : Int) := by
    have e : (g : Int) - 1 = ((g - 1 : Nat) : Int) := by omega
    rw [e, ← Int.natCast_mul]
  have hB2 : (g - 1) * (g - 1) ≤ 59 * 59 := Nat.mul_le_mul (by omega) (by omega)
  have hB3 : g ≤ (g - 1) * (g - 1) + 1 := by
    rcases Nat.lt_or_ge g 3 with h | h
    · have : g = 1 ∨ g = 2 := by omega
      rcases this with e | e <;> subst e <;> decide
    · have := Nat.mul_le_mul_right (g - 1) (show 2 ≤ g - 1 by omega)
      omega
  generalize hb : (g - 1) * (g - 1) = B at hB hB2 hB3
  -- how often, and what is left
  obtain ⟨t, r, ht, hr, hn, hrB, hfar⟩ : ∃ t r : Nat, (if -(((B : Int) - (n : Int)) / (g : Int)) > 0 then -(((B : Int) - (n : Int)) / (g : Int)) else 0) = (t : Int) ∧ (n : Int) - (t : Int) * (g : Int) = (r : Int) ∧ n = r + t * g ∧ r ≤ B ∧ (B < r + g ∨ t = 0) := by
    have m1 := Int.mul_ediv_add_emod ((B : Int) - (n : Int)) (g : Int)
    have m2 := Int.emod_nonneg ((B : Int) - (n : Int)) (show (g : Int) ≠ 0 by omega)
    have m3 := Int.emod_lt_of_pos ((B : Int) - (n : Int)) (show 0 < (g : Int) by omega)
    generalize ((B : Int) - (n : Int)) / (g : Int) = q at m1
    generalize ((B : Int) - (n : Int)) % (g : Int) = s at m1 m2 m3
    by_cases hq : -q > 0
    · refine ⟨(-q).toNat, (n - (-q) * g : Int).toNat, ?_⟩
      have e1 : (((-q).toNat : Nat) : Int) = -q := Int.toNat_of_nonneg (by omega)
      have e2 : (-q) * (g : Int) = -((g : Int) * q) := by rw [Int.neg_mul, Int.mul_comm]
      have e3 : (((n - (-q) * g : Int).toNat : Nat) : Int) = n - (-q) * g := Int.toNat_of_nonneg (by rw [e2]; omega)
      rw [if_pos hq, e1]
      refine ⟨rfl, e3.symm, ?_, ?_, .inl ?_⟩
      · have : ((n : Nat) : Int) = (((n - (-q) * g : Int).toNat + (-q).toNat * g : Nat) : Int) := by
          rw [Int.natCast_add, Int.natCast_mul, e3, e1]; omega
        omega
      · omega
      · omega
    · refine ⟨0, n, by rw [if_neg hq]; rfl, by omega, by omega, ?_, .inr rfl⟩
      have : 0 ≤ q := by omega
      have : 0 ≤ (g : Int) * q := Int.mul_nonneg (by omega) this
      omega
  have hbest := best_times (cs := cs) (fun c h => (hc.le c h).1) tp.mem tp.le t r (by rw [hb]; exact hfar)
  rw [← hn] at hbest
  have hft := fewest_to hc (n := r) (by omega)
  have hpow : powD (.int ((g : Int) - 1)) (.int 2) = some (.int (B : Int)) := by
    rw [← hB]
    exact pow2D_e (by omega)
  have hmax : max2D [.int 0, .int (-(((B : Int) - (n : Int)) / (g : Int)))] = some (.int (t : Int)) := by
    rw [← ht]; rfl
  refine fnV_of (η1 := [none, none]) ?_
  unfold F_least_count m_least_count
  walk_at "dl frun"
  · apply s_seq
    · exact s_ifF (e_tru (e_op (e_var rfl) e_pure ltD_e) boolD_e) (decide_eq_false (by omega)) e_pure
    apply s_seq
    · exact s_asg (e_op (e_var rfl) (e_un e_pure neg1) tp.ix) rfl
    apply s_seq
    · exact s_asg (e_op (e_op (e_var rfl) e_pure subD_e) e_pure hpow) rfl
    apply s_seq
    · exact s_asg (e_ca (e_cons e_pure (e_cons (e_un (e_op (e_op (e_var rfl) (e_var rfl) subD_e) (e_var rfl) (fdivD_e (by omega) (by omega))) negD_e) e_nil)) hmax) rfl
    apply s_seq
    · refine s_asg (e_op (e_call (rv := .l (enT (tab cs r))) (e_cons (e_var rfl) (e_cons (e_op (e_var rfl) (e_op (e_var rfl) (e_var rfl) (mulD_r (by omega))) subD_e) e_nil)) ?_) (e_un e_pure neg1) (ix_ll (tab_last cs r))) rfl
      rw [hr]
      exact hft
    · refine s_ret (x := enO (best cs n)) (η1 := [some (.val (.tuple (enC cs))), some (.val (.int (n : Int))), some (.val (.int (g : Int))), some (.val (.int (B : Int))), some (.val (.int (t : Int))), some (.val (enO (best cs r)))]) ?_
      rw [hbest]
      cases e : best cs r with
      | none => exact e_ifT (e_tru (e_op (e_var rfl) e_pure (is_enO _)) boolD_e) rfl e_pure
      | some k =>
        refine e_ifF (e_tru (e_op (e_var rfl) e_pure (is_enO _)) boolD_e) rfl (e_op (e_var rfl) (e_var rfl) ?_)
        exact enO_add (some k) t (by simp)
  · rfl
theorem least_neg {cs : List Nat} {n : Int} (h : n < 0) : fnV F_least_count [.tuple (enC cs), .int n] = some (.ok (.d .none)) := by
  refine fnV_of (η1 := [none, none]) ?_
  unfold F_least_count m_least_count
  walk_at "dl frun"
  · apply s_seqR
    exact s_ifT (e_tru (e_op (e_var rfl) e_pure ltD_e) boolD_e) (decide_eq_true h) (s_ret e_pure)
  · rfl
theorem fewest_of {cs : List Nat} (hc : Coins cs) {n : Int} {z : PyData} (h : fnV F_least_count [.tuple (enC cs), .int n] = some (.ok (.d z))) : fnV F_fewest [.tuple (enC cs), .int n] = some (.ok (.d z)) := by
  refine fnV_of (η1 := [none, none]) ?_
  unfold F_fewest m_fewest
  walk_at "dl frun"
  · apply s_seq
    · exact s_drop (e_call (e_cons (e_var rfl) e_nil) (need_coins hc))
    · exact s_ret (e_call (e_cons (e_var rfl) (e_cons (e_var rfl) e_nil)) h)
  · rfl
end G44
end
section
set_option Elab.async false
set_option linter.all false
set_option maxRecDepth 100000
namespace G44
open PySem L2 L2.DL P44
set_option autoImplicit false
def bn (cs : List Nat) (n : Nat) : Nat := (best cs n).getD 0
theorem bn_some {cs : List Nat} (hc : Coins cs) (h1 : 1 ∈ cs) (n : Nat) : best cs n = some (bn cs n) := by
  obtain ⟨k, e, _⟩ := best_one (fun c h => (hc.le c h).1) h1 n
  unfold bn; rw [e]; rfl
theorem bn_le {cs : List Nat} (hc : Coins cs) (h1 : 1 ∈ cs) (n : Nat) : bn cs n ≤ n := best_le (fun c h => (hc.le c h).1) (bn_some hc h1 n)
theorem enO_bn {cs : List Nat} (hc : Coins cs) (h1 : 1 ∈ cs) (n : Nat) : enO (best cs n) = .int (bn cs n : Int) := by rw [bn_some hc h1 n]; rfl
theorem row_ix {cs : List Nat} (hc : Coins cs) (h1 : 1 ∈ cs) {N n : Nat} {i : Int} (hi : i = (n : Int)) (h : n ≤ N) : ixD (.list (enT (tab cs N))) (.int i) = some (.int (bn cs n : Int)) := by
  subst hi
  rw [← enO_bn hc h1]
  refine ixD_l ?_
  rw [enT_get (by rw [tab_len]; omega), tab_getD h]
theorem fm_filter {p : Nat → Bool} : ∀ l : List Nat, (l.map fun (i : Nat) => PyData.int (0 + (i : Int))).filterMap (fun x => match x with | .int n => if p n.toNat = true then some (.int n) else none | _ => none) = (l.filter p).map fun (i : Nat) => PyData.int (i : Int)
  | [] => rfl
  | x :: xs => by
    have ih := fm_filter (p := p) xs
    have e : (0 + (x : Int)).toNat = x := by omega
    rw [List.map_cons, List.filterMap_cons, List.filter_cons]
    simp only [e]
    cases hp : p x with
    | true => simp only [if_true, List.map_cons]; rw [ih, Int.zero_add]
    | false => simp only [Bool.false_eq_true, if_false]; exact ih
theorem last_range {p : Nat → Bool} (M : Nat) : ((List.range M).filter p = [] ∧ ∀ n, n < M → p n = false) ∨ ∃ s, s < M ∧ ((List.range M).filter p)[((List.range M).filter p).length - 1]? = some s ∧ p s = true ∧ (List.range M).filter p ≠ [] ∧ ∀ n, s < n → n < M → p n = false := by
  induction M with
  | zero => exact .inl ⟨rfl, fun n h => by omega⟩
  | succ M ih =>
    rw [List.range_succ, List.filter_append]
    cases hp : p M with
    | true =>
      have e : List.filter p [M] = [M] := by simp [hp]
      rw [e]
      refine .inr ⟨M, by omega, ?_, hp, by simp, fun n h1 h2 => by omega⟩
      rw [List.length_append, List.length_singleton, Nat.add_sub_cancel, List.getElem?_append_right (Nat.le_refl _), Nat.sub_self]; rfl
    | false =>
      have e : List.filter p [M] = [] := by simp [hp]
      rw [e, List.append_nil]
      rcases ih with ⟨a, b⟩ | ⟨s, a, b, c, d, f⟩
      · refine .inl ⟨a, fun n h => ?_⟩
        by_cases z : n = M
        · subst z; exact hp
        · exact b n (by omega)
      · refine .inr ⟨s, by omega, b, c, d, fun n h1 h2 => ?_⟩
        by_cases z : n = M
        · subst z; exact hp
        · exact f n h1 (by omega)
/-- those places where a row does not come round -/
def pn (cs : List Nat) (g n : Nat) : Bool := !((bn cs (n + g) : Int) == (bn cs n : Int) + 1)
theorem pn_false {cs : List Nat} {g n : Nat} (h : pn cs g n = false) : bn cs (n + g) = bn cs n + 1 := by
  unfold pn at h
  cases hx : ((bn cs (n + g) : Int) == (bn cs n : Int) + 1) with
  | true => have := eq_of_beq hx; omega
  | false => rw [hx] at h; cases h
theorem pn_true {cs : List Nat} {g n : Nat} (h : pn cs g n = true) : bn cs (n + g) ≠ bn cs n + 1 := by
  intro e
  unfold pn at h
  rw [e] at h
  simp at h
theorem far_pn {cs : List Nat} (hc : Coins cs) (h1 : 1 ∈ cs) {g n : Nat} (tp : Top cs g) (h : (g - 1) * (g - 1) < n + g) : bn cs (n + g) = bn cs n + 1 := by
  have a := best_far (cs := cs) (fun c h => (hc.le c h).1) tp.mem tp.le h
  rw [bn_some hc h1, bn_some hc h1 n] at a
  exact Option.some.inj a
/-- the comprehension over places -/
theorem unlike_comp {cs : List Nat} (hc : Coins cs) (h1 : 1 ∈ cs) {g N M : Nat} (hM : M + g ≤ N + 1) (hg : 1 ≤ g) (hN : N < 900000) {a b c d : Option Slot} :
    compM (gV 5) (mTru boolD (mOp neD (mOp ixD (mVar 2) (mOp addD (mVar 5) (mVar 1))) (mOp addD (mOp ixD (mVar 2) (mVar 5)) (mPure (.int 1))))) (mVar 5) [5] (rngL 0 M) []
      [a, some (.val (.int (g : Int))), some (.val (.list (enT (tab cs N)))), c, d, none] = some (.ok (((List.range M).filter (pn cs g)).map fun (i : Nat) => PyData.int (i : Int)), [a, some (.val (.int (g : Int))), some (.val (.list (enT (tab cs N)))), c, d, none]) := by
  have key := comp_map (gm := gV 5) (mt := mTru boolD (mOp neD (mOp ixD (mVar 2) (mOp addD (mVar 5) (mVar 1))) (mOp addD (mOp ixD (mVar 2) (mVar 5)) (mPure (.int 1))))) (m := mVar 5) (vs := [5])
    (η := [a, some (.val (.int (g : Int))), some (.val (.list (enT (tab cs N)))), c, d, none])
    (f := fun x => match x with | .int n => if pn cs g n.toNat = true then some (.int n) else none | _ => none) rfl (rngL 0 M) [] (by rw [rng_len, line_eq, List.length_nil]; omega) (fun x hx => by
    obtain ⟨i, hi⟩ := List.mem_iff_getElem?.mp hx
    obtain ⟨hlt, rfl⟩ := rng_get hi
    refine ⟨_, rfl, ?_⟩
    have e0 : (0 + (i : Int)).toNat = i := by omega
    have hne : mTru boolD (mOp neD (mOp ixD (mVar 2) (mOp addD (mVar 5) (mVar 1))) (mOp addD (mOp ixD (mVar 2) (mVar 5)) (mPure (.int 1)))) [a, some (.val (.int (g : Int))), some (.val (.list (enT (tab cs N)))), c, d, some (.val (.int (0 + (i : Int))))] = some (.ok (pn cs g i), [a, some (.val (.int (g : Int))), some (.val (.list (enT (tab cs N)))), c, d, some (.val (.int (0 + (i : Int))))]) :=
      e_tru (e_op (e_op (e_var rfl) (e_op (e_var rfl) (e_var rfl) addD_e) (row_ix hc h1 (n := i + g) (by omega) (by omega))) (e_op (e_op (e_var rfl) (e_var rfl) (row_ix hc h1 (n := i) (by omega) (by omega))) e_pure addD_e) neD_ii) rfl
    cases hp : pn cs g i with
    | true =>
      rw [hp] at hne
      refine .inl ⟨_, .int (0 + (i : Int)), ?_, hne, _, e_var rfl, rfl⟩
      show (if pn cs g (0 + (i : Int)).toNat = true then _ else _) = _
      rw [e0, if_pos hp]
    | false =>
      rw [hp] at hne
      refine .inr ⟨?_, _, hne, rfl⟩
      show (if pn cs g (0 + (i : Int)).toNat = true then _ else _) = _
      rw [e0, hp, if_neg Bool.false_ne_true])
  rw [List.nil_append] at key
  rw [key]
  unfold rngL
  rw [fm_filter]
theorem cut_take {ds : List PyData} {k : Nat} (h : k ≤ ds.length) : cutD ds none (some (k : Int)) = ds.take k := by
  have e1 : HT.sIx ds.length ds.length (some (k : Int)) = k := by
    unfold HT.sIx
    simp only
    rw [if_neg (by omega), Int.toNat_natCast, Nat.min_eq_left h]
  have e2 : HT.sIx ds.length 0 none = 0 := rfl
  unfold cutD
  rw [e1, e2, Nat.sub_zero, List.drop_zero]
theorem sl_take {ds : List PyData} {k : Nat} (h : k ≤ ds.length) : slD (.list ds) none (some (k : Int)) = some (.list (ds.take k)) := by
  simp only [slD, cut_take h]
theorem nat_ints (l : List Nat) : (l.map fun (i : Nat) => PyData.int (i : Int)) = (l.map fun (i : Nat) => (i : Int)).map .int := by rw [List.map_map]; rfl
theorem round_table {cs : List Nat} (hc : Coins cs) (h1 : 1 ∈ cs) {g : Nat} (tp : Top cs g) : ∃ s : Nat, s ≤ (g - 1) * (g - 1) + g + 1 ∧ (∀ n, s ≤ n → bn cs (n + g) = bn cs n + 1) ∧ (0 < s → bn cs (s - 1 + g) ≠ bn cs (s - 1) + 1) ∧
    fnV F_round_table [.tuple (enC cs)] = some (.ok (.d (.tuple [.int (s : Int), .int (g : Int), .int 1, .tuple ((enT (tab cs ((g - 1) * (g - 1) + 2 * g))).take (s + g))]))) := by
  have g1 := tp.one
  have g2 := tp.sixty
  have hB : ((g : Int) - 1) * ((g : Int) - 1) = (((g - 1) * (g - 1) : Nat) : Int) := by
    have e : (g : Int) - 1 = ((g - 1 : Nat) : Int) := by omega
    rw [e, ← Int.natCast_mul]
  have hB2 : (g - 1) * (g - 1) ≤ 59 * 59 := Nat.mul_le_mul (by omega) (by omega)
  have hfar := fun n (h : (g - 1) * (g - 1) < n + g) => far_pn hc h1 tp h
  generalize hb : (g - 1) * (g - 1) = B at hB hB2 hfar ⊢
  have hft := fewest_to hc (n := B + 2 * g) (by omega)
  have hpow : powD (.int ((g : Int) - 1)) (.int 2) = some (.int (B : Int)) := by
    rw [← hB]
    exact pow2D_e (by omega)
  have hlen : (enT (tab cs (B + 2 * g))).length = B + 2 * g + 1 := by unfold enT; rw [List.length_map, tab_len]
  have hcomp := unlike_comp hc h1 (g := g) (N := B + 2 * g) (M := B + g + 1) (by omega) g1 (by omega) (a := some (.val (.tuple (enC cs)))) (b := none) (c := none) (d := none)
  -- the start
  have key : ∃ s : Nat, s ≤ B + g + 1 ∧ (∀ n, s ≤ n → n < B + g + 1 → pn cs g n = false) ∧ (0 < s → pn cs g (s - 1) = true) ∧
      mIf (mTru boolD (mOpV neD 3 (mFz (mCaL (fun xs => if xs.length ≤ sizeLine then some xs else none) mNil)))) (mOp addD (mOpV ixD 3 (mUn negD (mPure (.int 1)))) (mPure (.int 1))) (mPure (.int 0))
        [some (.val (.tuple (enC cs))), some (.val (.int (g : Int))), some (.val (.list (enT (tab cs (B + 2 * g))))), some (.own false (((List.range (B + g + 1)).filter (pn cs g)).map fun (i : Nat) => PyData.int (i : Int))), none, none]
        = some (.ok (.int (s : Int)), [some (.val (.tuple (enC cs))), some (.val (.int (g : Int))), some (.val (.list (enT (tab cs (B + 2 * g))))), some (.own false (((List.range (B + g + 1)).filter (pn cs g)).map fun (i : Nat) => PyData.int (i : Int))), none, none]) := by
    have hne : neD (.list (((List.range (B + g + 1)).filter (pn cs g)).map fun (i : Nat) => PyData.int (i : Int))) (.list []) = some (.bool (!(((List.range (B + g + 1)).filter (pn cs g)).map fun (i : Nat) => PyData.int (i : Int)).isEmpty)) := neD_nil (by rw [nat_ints]; exact shaped_ints _)
    rcases last_range (p := pn cs g) (B + g + 1) with ⟨a, b⟩ | ⟨s, a, b, c, d, f⟩
    · refine ⟨0, by omega, fun n _ h => b n h, fun h => by omega, ?_⟩
      rw [a] at hne ⊢
      exact e_ifF (e_tru (e_opV (e_borO rfl) (e_fz (e_caL e_nil (if_pos (Nat.zero_le _)))) (e_borO rfl) hne) boolD_e) rfl e_pure
    · refine ⟨s + 1, by omega, fun n h1 h2 => f n (by omega) h2, fun _ => by rw [Nat.add_sub_cancel]; exact c, ?_⟩
      refine e_ifT (e_tru (e_opV (e_borO rfl) (e_fz (e_caL e_nil (if_pos (Nat.zero_le _)))) (e_borO rfl) hne) boolD_e) ?_ (e_op (e_opV (e_borO rfl) (e_un e_pure neg1) (e_borO rfl) (ix_ll (z := .int (s : Int)) ?_)) e_pure addD_e)
      · cases h : (List.range (B + g + 1)).filter (pn cs g) with
        | nil => exact absurd h d
        | cons x xs => rfl
      · rw [List.length_map, List.getElem?_map, b]; rfl
  obtain ⟨s, s1, s2, s3, hs⟩ := key
  have hcut : slD (.list (enT (tab cs (B + 2 * g)))) none (some ((s : Int) + (g : Int))) = some (.list ((enT (tab cs (B + 2 * g))).take (s + g))) := by
    have := sl_take (ds := enT (tab cs (B + 2 * g))) (k := s + g) (by rw [hlen]; omega)
    rwa [Int.natCast_add] at this
  refine ⟨s, s1, fun n h => ?_, fun h => pn_true (s3 h), ?_⟩
  · by_cases hn : n < B + g + 1
    · exact pn_false (s2 n h hn)
    · exact hfar n (by omega)
  refine fnV_of (η1 := [none]) ?_
  unfold F_round_table m_round_table
  walk_at "dl frun"
  · apply s_seq
    · exact s_asg (e_op (e_var rfl) (e_un e_pure neg1) tp.ix) rfl
    apply s_seq
    · refine s_asg (e_call (rv := .l (enT (tab cs (B + 2 * g)))) (e_cons (e_var rfl) (e_cons (e_op (e_op (e_op (e_var rfl) e_pure subD_e) e_pure hpow) (e_op e_pure (e_var rfl) (mulD_l (by omega))) addD_e) e_nil)) ?_) rfl
      have e : (B : Int) + 2 * (g : Int) = ((B + 2 * g : Nat) : Int) := by omega
      rw [e]
      exact hft
    apply s_seq
    · apply s_asgL
      · refine e_comp (e_gIt (e_cons (e_op (e_un (e_var rfl) len_l) (e_var rfl) subD_e) e_nil) (range1 (by rw [hlen]; omega) (by rw [hlen]; omega))) ?_
        rw [hlen]
        have e : (((B + 2 * g + 1 : Nat) : Int) - (g : Int)).toNat = B + g + 1 := by omega
        rw [e]
        exact hcomp
      · rfl
    apply s_seq
    · exact s_asg hs rfl
    · exact s_ret (e_ca (e_cons (e_var rfl) (e_cons (e_var rfl) (e_cons e_pure (e_cons (e_un (e_sl (e_var rfl) e_partN (e_part (e_op (e_var rfl) (e_var rfl) addD_e)) hcut) tup_l) e_nil)))) (if_pos (by rw [line_eq]; show 4 ≤ 16777216; omega)))
  · rfl
end G44
end
section
set_option Elab.async false
set_option linter.all false
set_option maxRecDepth 100000
namespace G44
open PySem L2 L2.DL P44
set_option autoImplicit false
theorem first_ix {c : Nat} {cs : List Nat} : ixD (.tuple (enC (c :: cs))) (.int 0) = some (.int (c : Int)) := ixD_t (k := 0) rfl
theorem table_ok {c : Nat} {cs : List Nat} (hc : Coins (c :: cs)) (e1 : c = 1) {z : PyData} (h : fnV F_round_table [.tuple (enC (c :: cs))] = some (.ok (.d z))) : fnV F_fewest_table [.tuple (enC (c :: cs))] = some (.ok (.d z)) := by
  refine fnV_of (η1 := [none]) ?_
  unfold F_fewest_table m_fewest_table
  walk_at "dl frun"
  · apply s_seq
    · exact s_drop (e_call (e_cons (e_var rfl) e_nil) (need_coins hc))
    apply s_seq
    · refine s_ifF (e_tru (e_op (e_op (e_var rfl) e_pure first_ix) e_pure neD_ii) boolD_e) ?_ e_pure
      subst e1; rfl
    · exact s_ret (e_call (e_cons (e_var rfl) e_nil) h)
  · rfl
theorem table_no {c : Nat} {cs : List Nat} (hc : Coins (c :: cs)) (e1 : c ≠ 1) : fnV F_fewest_table [.tuple (enC (c :: cs))] = some (.exc "InvalidCoins" (.tuple (enC (c :: cs)))) := by
  refine fnV_of (η1 := [none]) ?_
  unfold F_fewest_table m_fewest_table
  walk_at "dl frunX"
  · apply s_seq
    · exact s_drop (e_call (e_cons (e_var rfl) e_nil) (need_coins hc))
    apply s_seqX
    refine s_ifT (e_tru (e_op (e_op (e_var rfl) e_pure first_ix) e_pure neD_ii) boolD_e) ?_ (s_raise (e_call (e_cons (e_var rfl) e_nil) (anew_coins hc)))
    have : ((c : Int) == 1) = false := by rw [beq_eq_false_iff_ne]; omega
    rw [this]; rfl
  · rfl
theorem enC_ints (cs : List Nat) : enC cs = (cs.map fun (c : Nat) => (c : Int)).map .int := by unfold enC; rw [List.map_map]; rfl
theorem num_coins {cs : List Nat} (hc : Coins cs) : numOk 3 (.tuple (enC cs)) = true := by
  show numAll 3 (enC cs) = true
  rw [enC_ints]
  refine numAll_ints _ fun n hn => ?_
  obtain ⟨c, hm, rfl⟩ := List.mem_map.mp hn
  have := hc.le c hm
  omega
theorem dep_coins (cs : List Nat) : PyData.depth (.tuple (enC cs)) = 1 := by
  show PyData.depthAll (enC cs) + 1 = 1
  rw [enC_ints, depth_ints]
theorem bulk_coins {cs : List Nat} (hc : Coins cs) : bulk 3 (.tuple (enC cs)) ≤ 100 := by
  show bulkAll 3 (enC cs) + 4 ≤ 100
  rw [enC_ints, bulk_ints, List.length_map]
  have := hc.five
  omega
theorem refused {c : Nat} {cs : List Nat} (hc : Coins (c :: cs)) (e1 : c ≠ 1) : fnV F__law_refused [.tuple (enC (c :: cs))] = some (.ok (.d (.bool true))) := by
  have hr : reprD (.tuple (enC (c :: cs))) = some (.str (PyData.shown (.tuple (enC (c :: cs))))) := rep_ok (L := 3) (by decide) (by decide) (num_coins hc) (by rw [dep_coins]; decide) (by have := bulk_coins hc; omega)
  have hs := (num_shown (L := 3) (by decide) _ (num_coins hc)).2
  refine fnV_of (η1 := [none]) ?_
  unfold F__law_refused m__law_refused
  walk_at "dl frun"
  · apply s_seq
    · exact s_asg e_pure rfl
    apply s_seq (η1 := [some (.val (.tuple (enC (c :: cs)))), some (.exc "InvalidCoins" (.tuple (enC (c :: cs)))), none])
    · have h := s_dropX (e_callX (η1 := [some (.val (.tuple (enC (c :: cs)))), some (.val .none), none]) (ml := mCons (mVar 0) mNil) (η := [some (.val (.tuple (enC (c :: cs)))), some (.val .none), none]) (e_cons (e_var rfl) e_nil) (table_no hc e1))
      show mTry NM 2 1 _ [some (.val (.tuple (enC (c :: cs)))), some (.val .none), none] = _
      unfold mTry
      rw [h]
      simp only
      rw [if_pos ⟨by rfl, by show 2 < 3; omega⟩]
      rfl
    · refine s_ret (x := .bool true) (e_andVT (b := true) (η1 := [some (.val (.tuple (enC (c :: cs)))), some (.exc "InvalidCoins" (.tuple (enC (c :: cs)))), none]) ?_ rfl (e_op (e_un (x := .tuple (enC (c :: cs))) (η1 := [some (.val (.tuple (enC (c :: cs)))), some (.exc "InvalidCoins" (.tuple (enC (c :: cs)))), none]) ?_ hr) (e_un (e_var rfl) hr) (eq_str hs)))
      · unfold mIsX
        simp
      · unfold mValX
        simp only [List.getElem?_cons_succ, List.getElem?_cons_zero]
        rw [if_pos (by rfl)]
  · rfl
/-! ### the drawn coins -/
theorem comp_inv {gm : PyData → EnvD → Option EnvD} {m : MX PyData} {vs : List Nat} {items : List PyData} (I : Nat → List PyData → EnvD → Prop) (hl : items.length ≤ sizeLine)
    (step : ∀ k x acc η, items[k]? = some x → I k acc η → ∃ η1 η2 y, gm x η = some η1 ∧ m η1 = some (.ok y, η2) ∧ I (k + 1) (acc ++ [y]) (wipeE vs η2)) {η : EnvD} (h0 : I 0 [] η) :
    ∃ acc η', compM gm (mPure true) m vs items [] η = some (.ok acc, η') ∧ I items.length acc η' ∧ acc.length = items.length := by
  suffices h : ∀ (n k : Nat) (acc : List PyData) (η : EnvD), items.length - k = n → k ≤ items.length → acc.length = k → I k acc η → ∃ acc' η', compM gm (mPure true) m vs (items.drop k) acc η = some (.ok acc', η') ∧ I items.length acc' η' ∧ acc'.length = items.length by
    have := h items.length 0 [] η (by omega) (by omega) rfl h0
    simpa using this
  intro n
  induction n with
  | zero =>
    intro k acc η hn hk ha hI
    have e : k = items.length := by omega
    subst e
    exact ⟨acc, η, by rw [List.drop_length]; rfl, hI, ha⟩
  | succ n ih =>
    intro k acc η hn hk ha hI
    have hlt : k < items.length := by omega
    obtain ⟨η1, η2, y, e1, e2, e3⟩ := step k _ acc η (List.getElem?_eq_getElem hlt) hI
    obtain ⟨acc', η', e4, e5⟩ := ih (k + 1) (acc ++ [y]) _ (by omega) (by omega) (by rw [List.length_append, ha]; rfl) e3
    refine ⟨acc', η', ?_, e5⟩
    rw [List.drop_eq_getElem_cons hlt]
    simp only [compM, e1, mPure, e2]
    rw [if_pos (by omega)]
    exact e4
theorem insU_len (x : Int) : ∀ l : List Int, (insU x l).length ≤ l.length + 1
  | [] => Nat.le_refl _
  | y :: ys => by
    unfold insU
    split
    · simp
    · split
      · simp
      · have := insU_len x ys
        simp only [List.length_cons]; omega
theorem sortU_len : ∀ l : List Int, (sortU l).length ≤ l.length
  | [] => Nat.le_refl _
  | x :: xs => by
    have a := insU_len x (sortU xs)
    have b := sortU_len xs
    show (insU x (sortU xs)).length ≤ xs.length + 1
    omega
/-- ints that are coins -/
theorem coins_of {l : List Int} (h0 : l ≠ []) (h5 : l.length ≤ 5) (hl : ∀ c ∈ l, 1 ≤ c ∧ c ≤ 60) (up : l.Pairwise (· < ·)) : ∃ cs, Coins cs ∧ enC cs = l.map .int := by
  refine ⟨l.map Int.toNat, ⟨by simpa using h0, by simpa using h5, fun c hc => ?_, ?_⟩, ?_⟩
  · obtain ⟨x, hx, rfl⟩ := List.mem_map.mp hc
    have := hl x hx
    omega
  · rw [List.pairwise_map]
    exact up.imp_of_mem fun ha hb h => by
      have := hl _ ha
      have := hl _ hb
      omega
  · unfold enC
    rw [List.map_map]
    refine List.map_congr_left fun x hx => ?_
    have := hl x hx
    show PyData.int ((x.toNat : Nat) : Int) = .int x
    rw [Int.toNat_of_nonneg (by omega)]
theorem law_coins {c : Int} {xs : List PyData} (w : Well c xs) (hc : c < 800000) : ∃ cs xs', Coins cs ∧ fnI F__law_coins xs [] = some (.ok (.d (.tuple (enC cs)), xs')) ∧ Well (c + 7) xs' := by
  obtain ⟨r1, x1, d1, a1, b1, w1⟩ := draw_ok (many := 3) w (by omega) (by decide) (by decide)
  obtain ⟨r2, x2, d2, a2, b2, w2⟩ := draw_ok (many := 5) w1 (by omega) (by decide) (by decide)
  obtain ⟨most, hm, m1, m2⟩ : ∃ most : Int, ixD (.list [.int 9, .int 20, .int 60]) (.int r1) = some (.int most) ∧ 1 ≤ most ∧ most ≤ 60 := by
    have : r1 = 0 ∨ r1 = 1 ∨ r1 = 2 := by omega
    rcases this with e | e | e <;> subst e
    · exact ⟨9, rfl, by decide, by decide⟩
    · exact ⟨20, rfl, by decide, by decide⟩
    · exact ⟨60, rfl, by decide, by decide⟩
  have comp := comp_inv (gm := gV 2) (m := mOp addD (mPure (.int 1)) (mCallI F__law_draw 0 (mCons (mVar 1) mNil))) (vs := [2]) (items := rngL 0 (1 + r2).toNat)
    (fun k acc η => ∃ (l : List Int) (xs' : List PyData), acc = l.map .int ∧ (∀ v ∈ l, 1 ≤ v ∧ v ≤ 60) ∧ Well (c + 2 + k) xs' ∧ η = [some (.own true xs'), some (.val (.int most)), none]) (by rw [rng_len, line_eq]; omega)
    (fun k x acc η hx ⟨l, xs', e1, e2, e3, e4⟩ => by
      obtain ⟨hlt, rfl⟩ := rng_get hx
      subst e1 e4
      obtain ⟨r3, x3, d3, a3, b3, w3⟩ := draw_ok (many := most) e3 (by omega) (by omega) (by omega)
      refine ⟨_, _, .int (1 + r3), rfl, e_op e_pure (e_callI (o := true) rfl (e_cons (e_var rfl) e_nil) rfl d3) addD_e, l ++ [1 + r3], x3, ?_, ?_, ?_, rfl⟩
      · rw [List.map_append]; rfl
      · intro v hv
        rcases List.mem_append.mp hv with h | h
        · exact e2 v h
        · rw [List.mem_singleton.mp h]; omega
      · have e : c + 2 + ((k + 1 : Nat) : Int) = c + 2 + (k : Int) + 1 := by omega
        rw [e]; exact w3)
    (η := [some (.own true x2), some (.val (.int most)), none]) ⟨[], x2, rfl, (fun v h => by cases h), w2.mono (by omega), rfl⟩
  obtain ⟨acc, η', hcomp, ⟨l, x4, rfl, hl, w4, rfl⟩, hlen⟩ := comp
  rw [rng_len] at w4 hlen
  rw [List.length_map] at hlen
  obtain ⟨cs, hcs, hen⟩ := coins_of (l := sortU l) (fun z => by
    have : l = [] := List.eq_nil_iff_forall_not_mem.mpr fun a ha => by
      have := sortU_mem.mpr ha
      rw [z] at this; cases this
    rw [this] at hlen
    simp at hlen
    omega) (by have := sortU_len l; omega) (fun v hv => hl v (sortU_mem.mp hv)) sortU_lt
  refine ⟨cs, x4, hcs, fnI_of (tl := []) ?_, w4.mono (by omega)⟩
  have hss : sortedSetD (.list (l.map .int)) = some (enC cs) := by
    unfold sortedSetD setOfD
    simp only [intsD_map, Option.bind_some]
    rw [if_pos (by omega)]
    simp only [Option.bind_some]
    rw [if_pos (by have := sortU_len l; omega), hen]
  unfold F__law_coins m__law_coins
  walk_at "dl frun"
  · apply s_seq
    · exact s_asg (e_op (e_fz (e_caL (e_cons e_pure (e_cons e_pure (e_cons e_pure e_nil))) (if_pos (by rw [line_eq]; decide)))) (e_callI (o := true) rfl (e_cons e_pure e_nil) rfl d1) hm) rfl
    · refine s_ret (e_un (e_fz (e_unL (e_fz (e_comp (e_gIt (e_cons (e_op e_pure (e_callI (o := true) rfl (e_cons e_pure e_nil) rfl d2) addD_e) e_nil) (range1 (by show -1000000000 < 1 + r2; omega) (by show 1 + r2 < 1000000000; omega))) hcomp)) hss)) tup_l)
  · rfl
end G44
end
section
set_option Elab.async false
set_option linter.all false
set_option maxRecDepth 100000
namespace G44
open PySem L2 L2.DL P44
set_option autoImplicit false
theorem rows_ints {cs : List Nat} (hc : Coins cs) (h1 : 1 ∈ cs) (N : Nat) : enT (tab cs N) = ((tab cs N).map fun (o : Option Nat) => ((o.getD 0 : Nat) : Int)).map .int := by
  unfold enT
  rw [List.map_map]
  refine List.map_congr_left fun o ho => ?_
  obtain ⟨i, hi, e⟩ := List.getElem_of_mem ho
  have hle : i ≤ N := by rw [tab_len] at hi; omega
  have := tab_get (m := 0) (cs := cs) hle
  rw [List.getElem?_eq_getElem hi, e] at this
  have e2 : o = some (bn cs i) := by rw [Option.some.inj this]; exact bn_some hc h1 i
  subst e2
  rfl
theorem take_rows {cs : List Nat} {N N' k : Nat} (h : k ≤ N + 1) (h' : N ≤ N') (h0 : 1 ≤ k) : (enT (tab cs N)).take k = (enT (tab cs N')).take k := by
  unfold enT
  rw [← List.map_take, ← List.map_take]
  obtain ⟨j, rfl⟩ : ∃ j, k = j + 1 := ⟨k - 1, by omega⟩
  rw [tab_take (by omega), tab_take (by omega)]
theorem comp_none {η : EnvD} {gm : PyData → EnvD → Option EnvD} {mt : MX Bool} {m : MX PyData} {vs : List Nat} (hη : wipeE vs η = η) (items : List PyData) (hl : items.length ≤ sizeLine) (h : ∀ x ∈ items, ∃ η1, gm x η = some η1 ∧ ∃ η2, mt η1 = some (.ok false, η2) ∧ wipeE vs η2 = η) :
    compM gm mt m vs items [] η = some (.ok [], η) := by
  have := comp_map (mt := mt) (m := m) (f := fun _ => none) hη items [] (by simpa using hl) (fun x hx => by
    obtain ⟨η1, e1, η2, e2, e3⟩ := h x hx
    exact ⟨η1, e1, .inr ⟨rfl, η2, e2, e3⟩⟩)
  rw [this]
  have : items.filterMap (fun _ => (none : Option PyData)) = [] := by
    induction items with
    | nil => rfl
    | cons x xs ih => simp
  rw [this]; rfl
theorem eq_int_false {i j : Int} (h : i ≠ j) : eqD (.int i) (.int j) = some (.bool false) := by
  rw [eqD_ii, beq_eq_false_iff_ne.mpr h]
theorem ne_int_same {i j : Int} (h : i = j) : neD (.int i) (.int j) = some (.bool false) := by
  rw [neD_ii, h]; simp
theorem lenSet_ints {ns : List Int} (h : ns.length < 4000) : lenSetD (.list (ns.map .int)) = some (.int ((sortU ns).length : Nat)) := by
  unfold lenSetD setOfD
  simp only [intsD_map, Option.bind_some]
  rw [if_pos h]; rfl
theorem is_table {cs : List Nat} (hc : Coins cs) (h1 : 1 ∈ cs) {g s : Nat} (tp : Top cs g) (s1 : s ≤ (g - 1) * (g - 1) + g + 1) (s2 : ∀ n, s ≤ n → bn cs (n + g) = bn cs n + 1) (s3 : 0 < s → bn cs (s - 1 + g) ≠ bn cs (s - 1) + 1) :
    fnV F__law_is_table [.tuple [.int (s : Int), .int (g : Int), .int 1, .tuple ((enT (tab cs ((g - 1) * (g - 1) + 2 * g))).take (s + g))], .tuple (enC cs), .list (enT (tab cs ((g - 1) * (g - 1) + 3 * g)))] = some (.ok (.d (.bool true))) := by
  have g1 := tp.one
  have g2 := tp.sixty
  have hB : ((g : Int) - 1) * ((g : Int) - 1) = (((g - 1) * (g - 1) : Nat) : Int) := by
    have e : (g : Int) - 1 = ((g - 1 : Nat) : Int) := by omega
    rw [e, ← Int.natCast_mul]
  have hB2 : (g - 1) * (g - 1) ≤ 59 * 59 := Nat.mul_le_mul (by omega) (by omega)
  have hfar := fun n (h : (g - 1) * (g - 1) < n + g) => far_pn hc h1 tp h
  generalize hb : (g - 1) * (g - 1) = B at hB hB2 hfar s1 ⊢
  have htake := take_rows (cs := cs) (N := B + 2 * g) (N' := B + 3 * g) (k := s + g) (by omega) (by omega) (by omega)
  rw [htake]
  have hlen : (enT (tab cs (B + 3 * g))).length = B + 3 * g + 1 := by unfold enT; rw [List.length_map, tab_len]
  have hsh : SeqAt.shaped (.tuple ((enT (tab cs (B + 3 * g))).take (s + g))) = true := by
    rw [rows_ints hc h1, ← List.map_take]
    exact shaped_tints _
  generalize hV : (enT (tab cs (B + 3 * g))).take (s + g) = V at hsh ⊢
  have hcut : slD (.list (enT (tab cs (B + 3 * g)))) none (some ((s : Int) + (g : Int))) = some (.list V) := by
    have := sl_take (ds := enT (tab cs (B + 3 * g))) (k := s + g) (by rw [hlen]; omega)
    rw [hV] at this
    rwa [Int.natCast_add] at this
  -- the state behind the unpacking
  have hun : compM (gV 9) (mTru boolD (mOp neD (mOp ixD (mVar 2) (mOp addD (mVar 9) (mVar 6))) (mOp addD (mOp ixD (mVar 2) (mVar 9)) (mVar 7)))) (mVar 9) [9] (rngL (s : Int) ((B + 3 * g + 1 : Nat) - (g : Int) - (s : Int)).toNat) []
      [some (.val (.tuple [.int (s : Int), .int (g : Int), .int 1, .tuple V])), some (.val (.tuple (enC cs))), some (.val (.list (enT (tab cs (B + 3 * g))))), none, none, some (.val (.int (s : Int))), some (.val (.int (g : Int))), some (.val (.int 1)), some (.val (.tuple V)), none]
      = some (.ok [], [some (.val (.tuple [.int (s : Int), .int (g : Int), .int 1, .tuple V])), some (.val (.tuple (enC cs))), some (.val (.list (enT (tab cs (B + 3 * g))))), none, none, some (.val (.int (s : Int))), some (.val (.int (g : Int))), some (.val (.int 1)), some (.val (.tuple V)), none]) :=
    comp_none rfl _ (by rw [rng_len, line_eq]; omega) fun x hx => by
      obtain ⟨i, hi⟩ := List.mem_iff_getElem?.mp hx
      obtain ⟨hlt, rfl⟩ := rng_get hi
      refine ⟨_, rfl, _, e_tru (e_op (e_op (e_var rfl) (e_op (e_var rfl) (e_var rfl) addD_e) (row_ix hc h1 (n := s + i + g) (by omega) (by omega))) (e_op (e_op (e_var rfl) (e_var rfl) (row_ix hc h1 (n := s + i) (by omega) (by omega))) (e_var rfl) addD_e) (ne_int_same ?_)) rfl, rfl⟩
      rw [s2 (s + i) (by omega)]
      omega
  rw [← hlen] at hun
  have hloop := loop_inv (gm := gV 4) (xs := rngL 1 ((g : Int) - 1).toNat) (ms := mIfS (mTru boolD (mOp eqD (mUn lenSetD (mFz (mComp (gIt rangeD (mCons (mVar 3) (mCons (mOp addD (mVar 3) (mVar 6)) mNil))) (gV 9) (mPure true) (mOp subD (mOp ixD (mVar 2) (mOp addD (mVar 9) (mVar 4))) (mOp ixD (mVar 2) (mVar 9))) [9]))) (mPure (.int 1)))) (mRet (mPure (.bool false))) (mPure .nx))
    (fun _ η => ∃ v4, NT v4 ∧ η = [some (.val (.tuple [.int (s : Int), .int (g : Int), .int 1, .tuple V])), some (.val (.tuple (enC cs))), some (.val (.list (enT (tab cs (B + 3 * g))))), some (.val (.int (B : Int))), v4, some (.val (.int (s : Int))), some (.val (.int (g : Int))), some (.val (.int 1)), some (.val (.tuple V)), none])
    (fun k x η hx ⟨v4, h4, hη⟩ => by
      obtain ⟨hk, rfl⟩ := rng_get hx
      subst hη
      have hless : (1 : Int) + (k : Int) = ((1 + k : Nat) : Int) := by omega
      have hcomp := comp_all (gm := gV 9) (m := mOp subD (mOp ixD (mVar 2) (mOp addD (mVar 9) (mVar 4))) (mOp ixD (mVar 2) (mVar 9))) (vs := [9]) (f := fun x => match x with | .int n => .int ((bn cs (n.toNat + (1 + k)) : Int) - (bn cs n.toNat : Int)) | _ => .none)
        (η := [some (.val (.tuple [.int (s : Int), .int (g : Int), .int 1, .tuple V])), some (.val (.tuple (enC cs))), some (.val (.list (enT (tab cs (B + 3 * g))))), some (.val (.int (B : Int))), some (.val (.int (1 + (k : Int)))), some (.val (.int (s : Int))), some (.val (.int (g : Int))), some (.val (.int 1)), some (.val (.tuple V)), none])
        rfl (rngL (B : Int) g) (by rw [rng_len, line_eq]; omega) (fun x hx => by
          obtain ⟨i, hi⟩ := List.mem_iff_getElem?.mp hx
          obtain ⟨hlt, rfl⟩ := rng_get hi
          refine ⟨_, rfl, _, e_op (e_op (e_var rfl) (e_op (e_var rfl) (e_var rfl) addD_e) (row_ix hc h1 (n := B + i + (1 + k)) (by omega) (by omega))) (e_op (e_var rfl) (e_var rfl) (row_ix hc h1 (n := B + i) (by omega) (by omega))) ?_, rfl⟩
          have e : ((B : Int) + (i : Int)).toNat = B + i := by omega
          simp only [e]
          rfl)
      have hmap : (rngL (B : Int) g).map (fun x => match x with | .int n => PyData.int ((bn cs (n.toNat + (1 + k)) : Int) - (bn cs n.toNat : Int)) | _ => .none) = ((List.range g).map fun (i : Nat) => (bn cs (B + i + (1 + k)) : Int) - (bn cs (B + i) : Int)).map .int := by
        unfold rngL
        rw [List.map_map, List.map_map]
        refine List.map_congr_left fun i _ => ?_
        have e : ((B : Int) + (i : Int)).toNat = B + i := by omega
        show PyData.int ((bn cs (((B : Int) + (i : Int)).toNat + (1 + k)) : Int) - (bn cs ((B : Int) + (i : Int)).toNat : Int)) = _
        rw [e]; rfl
      rw [hmap] at hcomp
      have hcard : ((sortU ((List.range g).map fun (i : Nat) => (bn cs (B + i + (1 + k)) : Int) - (bn cs (B + i) : Int))).length : Int) ≠ 1 := by
        intro e
        obtain ⟨c, ec⟩ := List.length_eq_one_iff.mp (Int.natCast_inj.mp (show _ = ((1 : Nat) : Int) from e))
        have all : ∀ i, i < g → (bn cs (B + i + (1 + k)) : Int) - (bn cs (B + i) : Int) = c := fun i hi => by
          have : ((bn cs (B + i + (1 + k)) : Int) - (bn cs (B + i) : Int)) ∈ sortU ((List.range g).map fun (i : Nat) => (bn cs (B + i + (1 + k)) : Int) - (bn cs (B + i) : Int)) := sortU_mem.mpr (List.mem_map.mpr ⟨i, List.mem_range.mpr hi, rfl⟩)
          rw [ec] at this
          exact List.mem_singleton.mp this
        refine no_less (b := fun n => (bn cs n : Int)) (g := g) (less := 1 + k) (far := B) (c := c) (by omega) (by omega) (fun n hn => ?_) (fun n hn hn2 => ?_)
        · have := hfar n (by omega)
          simp only [this]
          omega
        · have := all (n - B) (by omega)
          have e : B + (n - B) = n := by omega
          rw [e] at this
          show (bn cs (n + (1 + k)) : Int) = (bn cs n : Int) + c
          omega
      refine ⟨_, _, stO_eq fun ds e => h4 ds (Option.some.inj e), ?_, some (.val (.int (1 + (k : Int)))), (fun ds e => by cases e), rfl⟩
      refine s_ifF (b := false) (e_tru (e_op (e_un (e_fz (e_comp (e_gIt (e_cons (e_var rfl) (e_cons (e_op (e_var rfl) (e_var rfl) addD_e) e_nil)) (range2 (i := (B : Int)) (j := (B : Int) + (g : Int)) (by omega) (by omega) (by omega) (by omega))) ?_)) (lenSet_ints (by rw [List.length_map, List.length_range]; omega))) e_pure (eq_int_false hcard)) rfl) rfl e_pure
      have e : ((B : Int) + (g : Int) - (B : Int)).toNat = g := by omega
      rw [e]
      exact hcomp)
    (η := [some (.val (.tuple [.int (s : Int), .int (g : Int), .int 1, .tuple V])), some (.val (.tuple (enC cs))), some (.val (.list (enT (tab cs (B + 3 * g))))), some (.val (.int (B : Int))), none, some (.val (.int (s : Int))), some (.val (.int (g : Int))), some (.val (.int 1)), some (.val (.tuple V)), none]) ⟨none, (fun ds e => by cases e), rfl⟩
  obtain ⟨η', hl, v4, _, rfl⟩ := hloop
  refine fnV_of (η1 := [none, none, none]) ?_
  unfold F__law_is_table m__law_is_table
  walk_at "dl frun"
  · apply s_seq
    · refine s_ifF (e_orF (b := false) (e_notT (e_tru (b := true) (e_un (e_var rfl) i_tt) tru_b)) rfl (e_orF (b := false) (e_tru (e_op (e_un (e_var rfl) len_t) e_pure (show neD (.int ((4 : Nat) : Int)) (.int 4) = some (.bool false) from ne_int_same rfl)) rfl) rfl
        (e_tru (b := false) (e_op (e_op (e_var rfl) e_pure (show ixD (.tuple [.int (s : Int), .int (g : Int), .int 1, .tuple V]) (.int 3) = some (.tuple V) from ixD_t (k := 3) rfl)) (e_un (e_sl (e_var rfl) e_partN (e_part (e_op (e_op (e_var rfl) e_pure (show ixD (.tuple [.int (s : Int), .int (g : Int), .int 1, .tuple V]) (.int 0) = some (.int (s : Int)) from ixD_t (k := 0) rfl)) (e_op (e_var rfl) e_pure (show ixD (.tuple [.int (s : Int), .int (g : Int), .int 1, .tuple V]) (.int 1) = some (.int (g : Int)) from ixD_t (k := 1) rfl)) addD_e)) hcut) tup_l) (neD_same hsh)) rfl))) rfl e_pure
    apply s_seq
    · apply s_asg
      · exact e_var rfl
      · rfl
    apply s_seq
    · refine s_ifF (e_orF (b := false) (e_tru (e_op (e_var rfl) (e_op (e_var rfl) (e_un e_pure neg1) tp.ix) (ne_int_same rfl)) rfl) rfl (e_tru (b := false) (e_op (e_fz (e_comp (e_gIt (e_cons (e_var rfl) (e_cons (e_op (e_un (e_var rfl) len_l) (e_var rfl) subD_e) e_nil)) (range2 (i := (s : Int)) (j := ((enT (tab cs (B + 3 * g))).length : Int) - (g : Int)) (by omega) (by omega) (by rw [hlen]; omega) (by rw [hlen]; omega))) hun)) (e_fz (e_caL e_nil (if_pos (Nat.zero_le _)))) (neD_same rfl)) rfl)) rfl e_pure
    apply s_seq
    · by_cases h0 : 0 < s
      · refine s_ifF (e_andT (b := true) (e_tru (e_op (e_var rfl) e_pure gtD_e) ?_) rfl (e_tru (b := false) (e_op (e_op (e_var rfl) (e_op (e_op (e_var rfl) e_pure subD_e) (e_var rfl) addD_e) (row_ix hc h1 (n := s - 1 + g) (by omega) (by omega))) (e_op (e_op (e_var rfl) (e_op (e_var rfl) e_pure subD_e) (row_ix hc h1 (n := s - 1) (by omega) (by omega))) (e_var rfl) addD_e) (eq_int_false ?_)) rfl)) rfl e_pure
        · rw [decide_eq_true (by omega)]; rfl
        · have := s3 h0
          omega
      · refine s_ifF (e_andF (b := false) (e_tru (e_op (e_var rfl) e_pure gtD_e) ?_) rfl) rfl e_pure
        rw [decide_eq_false (by omega)]; rfl
    apply s_seq
    · refine s_asg (x := .int (B : Int)) (e_op (e_op (e_var rfl) e_pure subD_e) (e_op (e_var rfl) e_pure subD_e) ?_) rfl
      rw [← hB]
      exact mulD_r (by omega)
    apply s_seq
    · exact s_for (e_gIt (e_cons e_pure (e_cons (e_var rfl) e_nil)) (range2 (i := 1) (j := (g : Int)) (by omega) (by omega) (by omega) (by omega))) hl
    · exact s_ret e_pure
  · rfl
end G44
end
section
set_option Elab.async false
set_option linter.all false
set_option maxRecDepth 100000
namespace G44
open PySem L2 L2.DL P44
set_option autoImplicit false
theorem num_en {L : Nat} {o : Option Nat} (h : ∀ k, o = some k → k < 10 ^ L) : numOk L (enO o) = true := by
  cases o with
  | none => rfl
  | some k => exact decide_eq_true (by simpa using h k rfl)
theorem bulk_en {L : Nat} {o : Option Nat} : bulk L (enO o) = L + 8 := by cases o <;> rfl
theorem dep_en {o : Option Nat} : PyData.depth (enO o) = 0 := by cases o <;> rfl
theorem rep_en {L : Nat} {o : Option Nat} (h0 : 0 < L) (hL : L ≤ 500) (h : ∀ k, o = some k → k < 10 ^ L) : ∃ t, reprD (enO o) = some (.str t) ∧ PyData.strOk t = true :=
  ⟨_, rep_ok h0 hL (num_en h) (by rw [dep_en]; decide) (by rw [bulk_en]; omega), (num_shown h0 _ (num_en h)).2⟩
theorem rep_en2 {L : Nat} {o : Option Nat} (h0 : 0 < L) (hL : L ≤ 500) (h : ∀ k, o = some k → k < 10 ^ L) : ∃ t, reprD (.list [enO o, enO o]) = some (.str t) ∧ PyData.strOk t = true := by
  have hn : numOk L (.list [enO o, enO o]) = true := by
    show (numOk L (enO o) && (numOk L (enO o) && true)) = true
    rw [num_en h]; rfl
  refine ⟨_, rep_ok h0 hL hn ?_ ?_, (num_shown h0 _ hn).2⟩
  · show max (PyData.depth (enO o)) (max (PyData.depth (enO o)) 0) + 1 ≤ 64
    rw [dep_en]; decide
  · show (bulk L (enO o) + 2 + (bulk L (enO o) + 2 + 0)) + 4 ≤ 16777216
    rw [bulk_en]; omega
theorem cut_pre {ds : List PyData} {k : Nat} : cutD ds none (some (k : Int)) = ds.take k := by
  have e1 : HT.sIx ds.length ds.length (some (k : Int)) = min k ds.length := by
    unfold HT.sIx
    simp only
    rw [if_neg (by omega), Int.toNat_natCast]
  have e2 : HT.sIx ds.length 0 none = 0 := rfl
  unfold cutD
  rw [e1, e2, Nat.sub_zero, List.drop_zero]
  rcases Nat.le_total k ds.length with h | h
  · rw [Nat.min_eq_left h]
  · rw [Nat.min_eq_right h, List.take_of_length_le (Nat.le_refl _), List.take_of_length_le h]
theorem st_nt {i : Nat} {s : Slot} {η : EnvD} {v : Option Slot} (h : η[i]? = some v) (hv : NT v) : stO i s η = some (η.set i (some s)) := stO_eq fun ds e => hv ds (by rw [h] at e; exact Option.some.inj e)
theorem nt_val {d : PyData} : NT (some (.val d)) := fun ds e => by cases e
theorem nt_none : NT none := fun ds e => by cases e
theorem nt_own {ds : List PyData} : NT (some (.own false ds)) := fun ds e => by cases e
theorem few_ok {cs : List Nat} (hc : Coins cs) (n : Nat) : fnV F_fewest [.tuple (enC cs), .int (n : Int)] = some (.ok (.d (enO (best cs n)))) := fewest_of hc (least_count hc n)
theorem bst_lt {cs : List Nat} (hc : Coins cs) {n L : Nat} (h : n < 10 ^ L) : ∀ k, best cs n = some k → k < 10 ^ L := fun k e => by
  have := best_le (fun c h => (hc.le c h).1) e
  omega
theorem tab_ix {cs : List Nat} {N n : Nat} {i : Int} (hi : i = (n : Int)) (h : n ≤ N) : ixD (.list (enT (tab cs N))) (.int i) = some (enO (best cs n)) := by
  subst hi
  refine ixD_l ?_
  rw [enT_get (by rw [tab_len]; omega), tab_getD h]
theorem enT_len {cs : List Nat} {N : Nat} : (enT (tab cs N)).length = N + 1 := by unfold enT; rw [List.length_map, tab_len]
/-! ### the inner turn: one amount -/
noncomputable def inM : MX Fl := (mSeq (mAsg (mIf (mTru boolD (mOp ltD (mVar 6) (mUn lenD (mVar 5)))) (mOp ixD (mVar 5) (mVar 6)) (mOp ixD (mCall (fnV F__law_fewest) (mCons (mVar 3) (mCons (mVar 6) mNil))) (mVar 6))) (gV 9))
    (mIfS (mTru boolD (mOp neD (mUn reprD (mFz (mCaL (fun xs => if xs.length ≤ sizeLine then some xs else none) (mCons (mCall (fnV F_fewest) (mCons (mVar 3) (mCons (mVar 6) mNil))) (mCons (mCall (fnV F_fewest) (mArgsK [1, 0] mNil (mCons (mVar 6) (mCons (mVar 3) mNil)))) mNil))))) (mUn reprD (mFz (mCaL (fun xs => if xs.length ≤ sizeLine then some xs else none) (mCons (mVar 9) (mCons (mVar 9) mNil))))))) (mRet (mPure (.bool false))) (mPure .nx)))
theorem in_turn {cs : List Nat} (hc : Coins cs) {N n : Nat} (hn : n < 900000) {v0 v1 v2 v4 v7 v8 v9 v10 v11 : Option Slot} (h9 : NT v9) :
    ∃ w9, NT w9 ∧ inM [v0, v1, v2, some (.val (.tuple (enC cs))), v4, some (.val (.list (enT (tab cs N)))), some (.val (.int (n : Int))), v7, v8, v9, v10, v11] = some (.ok .nx, [v0, v1, v2, some (.val (.tuple (enC cs))), v4, some (.val (.list (enT (tab cs N)))), some (.val (.int (n : Int))), v7, v8, w9, v10, v11]) := by
  obtain ⟨t, ht, hs⟩ := rep_en2 (L := 6) (by decide) (by decide) (bst_lt hc (n := n) (L := 6) (by omega))
  refine ⟨some (.val (enO (best cs n))), nt_val, ?_⟩
  unfold inM
  refine s_seq (η1 := [v0, v1, v2, some (.val (.tuple (enC cs))), v4, some (.val (.list (enT (tab cs N)))), some (.val (.int (n : Int))), v7, v8, some (.val (enO (best cs n))), v10, v11]) (s_asg (x := enO (best cs n)) (η1 := [v0, v1, v2, some (.val (.tuple (enC cs))), v4, some (.val (.list (enT (tab cs N)))), some (.val (.int (n : Int))), v7, v8, v9, v10, v11]) ?_ (st_nt (v := v9) rfl h9)) ?_
  · by_cases h : n ≤ N
    · refine e_ifT (e_tru (e_op (e_var rfl) (e_un (e_var rfl) len_l) ltD_e) boolD_e) (decide_eq_true ?_) (e_op (e_var rfl) (e_var rfl) (tab_ix rfl h))
      rw [enT_len]; omega
    · refine e_ifF (e_tru (e_op (e_var rfl) (e_un (e_var rfl) len_l) ltD_e) boolD_e) (decide_eq_false ?_) (e_op (e_call (e_cons (e_var rfl) (e_cons (e_var rfl) e_nil)) (law_fewest hc hn)) (e_var rfl) (tab_ix rfl (Nat.le_refl n)))
      rw [enT_len]; omega
  · refine s_ifF (b := false) (e_tru (e_op (e_un (e_fz (e_caL (e_cons (e_call (e_cons (e_var rfl) (e_cons (e_var rfl) e_nil)) (few_ok hc n)) (e_cons (e_call (e_argsK e_nil (e_cons (e_var rfl) (e_cons (e_var rfl) e_nil))) (few_ok hc n)) e_nil)) (if_pos (by rw [line_eq]; show 2 ≤ 16777216; omega)))) ht) (e_un (e_fz (e_caL (e_cons (e_var rfl) (e_cons (e_var rfl) e_nil)) (if_pos (by rw [line_eq]; show 2 ≤ 16777216; omega)))) ht) (ne_str hs)) rfl) rfl e_pure
end G44
end
section
set_option Elab.async false
set_option linter.all false
set_option maxRecDepth 100000
namespace G44
open PySem L2 L2.DL P44
set_option autoImplicit false
theorem own_cs {c : Nat} {cs : List Nat} (hc : Coins (c :: cs)) (e1 : c ≠ 1) : Coins (1 :: (c :: cs).take 4) := by
  have hle := hc.le
  have hp := List.pairwise_cons.mp hc.up
  have c2 : ∀ d ∈ c :: cs, 2 ≤ d := fun d hd => by
    have h1 := (hle c List.mem_cons_self).1
    rcases List.mem_cons.mp hd with e | h
    · omega
    · have := hp.1 d h; omega
  refine ⟨by simp, by rw [List.length_cons, List.length_take]; omega, fun d hd => ?_, List.pairwise_cons.mpr ⟨fun d hd => ?_, hc.up.sublist (List.take_sublist _ _)⟩⟩
  · rcases List.mem_cons.mp hd with e | h
    · omega
    · exact hle d (List.mem_of_mem_take h)
  · have := c2 d (List.mem_of_mem_take hd); omega
theorem sort_same {cs : List Nat} (h : cs.Pairwise (· < ·)) : sortI (cs.map fun (c : Nat) => (c : Int)) = cs.map fun (c : Nat) => (c : Int) :=
  (sortI_eq (List.Perm.refl _) (List.pairwise_map.mpr (h.imp fun h => by omega))).symm
theorem own_of {c : Nat} {cs : List Nat} (hc : Coins (c :: cs)) : ∃ t, Coins (1 :: t) ∧ ∀ η : EnvD, η[3]? = some (some (.val (.tuple (enC (c :: cs))))) →
    mIf (mTru boolD (mOp eqD (mOp ixD (mVar 3) (mPure (.int 0))) (mPure (.int 1)))) (mVar 3) (mUn tupD (mFz (mUnL sortedD (mOp addD (mCa (fun xs => if xs.length ≤ sizeLine then some (.tuple xs) else none) (mCons (mPure (.int 1)) mNil)) (mSl slD (mVar 3) (mPure none) (mPart (mPure (.int 4)))))))) η = some (.ok (.tuple (enC (1 :: t))), η) := by
  by_cases e1 : c = 1
  · subst e1
    exact ⟨cs, hc, fun η h => e_ifT (e_tru (e_op (e_op (e_var h) e_pure first_ix) e_pure eqD_ii) boolD_e) rfl (e_var h)⟩
  · have ho := own_cs hc e1
    refine ⟨_, ho, fun η h => e_ifF (e_tru (e_op (e_op (e_var h) e_pure first_ix) e_pure eqD_ii) boolD_e) ?_ (e_un (e_fz (e_unL (e_op (e_ca (e_cons e_pure e_nil) (if_pos ?_)) (e_sl (e_var h) e_partN (e_part e_pure) (show slD (.tuple (enC (c :: cs))) none (some ((4 : Nat) : Int)) = some (.tuple ((enC (c :: cs)).take 4)) from ?_)) (if_pos ?_)) ?_)) tup_l)⟩
    · rw [beq_eq_false_iff_ne]; omega
    · rw [line_eq]; decide
    · simp only [slD, cut_pre]
    · rw [line_eq, List.length_take]; show 1 + _ ≤ _; omega
    · have e : [PyData.int 1] ++ (enC (c :: cs)).take 4 = ((1 :: (c :: cs).take 4).map fun (c : Nat) => (c : Int)).map .int := by
        rw [← enC_ints]; unfold enC; rw [← List.map_take]; rfl
      rw [e]
      show (intsD _).map _ = _
      rw [intsD_map]
      simp only [Option.map_some, sort_same ho.up]
      rw [← enC_ints]
theorem far_of (B g r : Nat) (hg : 1 ≤ g) (hB : B ≤ 3481) : ∃ q n : Nat, ((100000000000000000000000000000 : Int) + (r : Int) - (B : Int)) / (g : Int) = (q : Int) ∧ (100000000000000000000000000000 : Int) + (r : Int) - (q : Int) * (g : Int) = (n : Int) ∧ 100000000000000000000000000000 + r = n + q * g ∧ B ≤ n ∧ n < B + g := by
  have m1 := Int.mul_ediv_add_emod ((100000000000000000000000000000 : Int) + (r : Int) - (B : Int)) (g : Int)
  have m2 := Int.emod_nonneg ((100000000000000000000000000000 : Int) + (r : Int) - (B : Int)) (show (g : Int) ≠ 0 by omega)
  have m3 := Int.emod_lt_of_pos ((100000000000000000000000000000 : Int) + (r : Int) - (B : Int)) (show 0 < (g : Int) by omega)
  have m4 := Int.ediv_nonneg (a := (100000000000000000000000000000 : Int) + (r : Int) - (B : Int)) (b := (g : Int)) (by omega) (by omega)
  generalize ((100000000000000000000000000000 : Int) + (r : Int) - (B : Int)) / (g : Int) = q at m1 m4
  generalize ((100000000000000000000000000000 : Int) + (r : Int) - (B : Int)) % (g : Int) = s at m1 m2 m3
  obtain ⟨Q, rfl⟩ := Int.eq_ofNat_of_zero_le m4
  obtain ⟨t, rfl⟩ := Int.eq_ofNat_of_zero_le m2
  have e : (Q : Int) * (g : Int) = ((Q * g : Nat) : Int) := by rw [Int.natCast_mul]
  rw [Int.mul_comm, e] at m1
  refine ⟨Q, B + t, rfl, ?_, ?_, by omega, by omega⟩
  · rw [e]; omega
  · omega
theorem told_num {os : List Nat} (ho : Coins os) (h1 : 1 ∈ os) {g s N : Nat} (hg : g ≤ 60) (hs : s ≤ 4000) (hN : N < 90000) : ∃ t, reprD (.tuple [.int (s : Int), .int (g : Int), .int 1, .tuple ((enT (tab os N)).take (s + g))]) = some (.str t) ∧ PyData.strOk t = true := by
  have e : (enT (tab os N)).take (s + g) = (((tab os N).map fun (o : Option Nat) => ((o.getD 0 : Nat) : Int)).take (s + g)).map .int := by rw [rows_ints ho h1, List.map_take]
  have hb : ∀ n ∈ ((tab os N).map fun (o : Option Nat) => ((o.getD 0 : Nat) : Int)).take (s + g), n.natAbs < 10 ^ 6 := fun n hn => by
    obtain ⟨o, hm, rfl⟩ := List.mem_map.mp (List.mem_of_mem_take hn)
    obtain ⟨i, hi, e⟩ := List.getElem_of_mem hm
    have hle : i ≤ N := by rw [tab_len] at hi; omega
    have := tab_get (m := 0) (cs := os) hle
    rw [List.getElem?_eq_getElem hi, e] at this
    have e2 : o = some (bn os i) := by rw [Option.some.inj this]; exact bn_some ho h1 i
    subst e2
    have := bn_le ho h1 i
    show (((bn os i : Nat) : Int)).natAbs < 10 ^ 6
    omega
  have hl : (((tab os N).map fun (o : Option Nat) => ((o.getD 0 : Nat) : Int)).take (s + g)).length ≤ 4060 := by rw [List.length_take]; omega
  rw [e]
  generalize ((tab os N).map fun (o : Option Nat) => ((o.getD 0 : Nat) : Int)).take (s + g) = l at hb hl
  have hn : numOk 6 (.tuple [.int (s : Int), .int (g : Int), .int 1, .tuple (l.map .int)]) = true := by
    show (decide (((s : Nat) : Int).natAbs < 10 ^ 6) && (decide (((g : Nat) : Int).natAbs < 10 ^ 6) && (decide ((1 : Int).natAbs < 10 ^ 6) && (numAll 6 (l.map .int) && true)))) = true
    rw [numAll_ints l hb, decide_eq_true (by omega), decide_eq_true (by omega)]
    rfl
  refine ⟨_, rep_ok (by decide) (by decide) hn ?_ ?_, (num_shown (by decide) _ hn).2⟩
  · show max 0 (max 0 (max 0 (max (PyData.depthAll (l.map PyData.int) + 1) 0))) + 1 ≤ 64
    rw [depth_ints]; decide
  · show (6 + 8) + 2 + ((6 + 8) + 2 + ((6 + 8) + 2 + ((bulkAll 6 (l.map .int) + 4) + 2 + 0))) + 4 ≤ 16777216
    rw [bulk_ints]; omega
end G44
end
section
set_option Elab.async false
set_option linter.all false
set_option maxRecDepth 100000
namespace G44
open PySem L2 L2.DL P44
set_option autoImplicit false
noncomputable def bodyM : MX Fl := (mSeq (mAsgL (mCallL (fnV F__law_well) (mCons (mVar 0) (mCons (mVar 1) mNil))) 2)
    (mSeq (mAsg (mCallI F__law_coins 2 mNil) (gV 3))
    (mSeq (mAsg (mOp ixD (mVar 3) (mUn negD (mPure (.int 1)))) (gV 4))
    (mSeq (mAsg (mCall (fnV F__law_fewest) (mCons (mVar 3) (mCons (mOp addD (mOp mulD (mOp subD (mVar 4) (mPure (.int 1))) (mOp subD (mVar 4) (mPure (.int 1)))) (mOp mulD (mPure (.int 3)) (mVar 4))) mNil))) (gV 5))
    (mSeq (mFor (mIter (mFz (mCaL (fun xs => if xs.length ≤ sizeLine then some xs else none) (mCons (mPure (.int 0)) (mCons (mPure (.int 1)) (mCons (mCallI F__law_draw 2 (mCons (mPure (.int 60)) mNil)) (mCons (mCallI F__law_draw 2 (mCons (mUn lenD (mVar 5)) mNil)) (mCons (mOp subD (mUn lenD (mVar 5)) (mPure (.int 1))) mNil)))))))) (gV 6) inM [])
    (mSeq (mIfS (mTru boolD (mOp isnD (mCall (fnV F_fewest) (mCons (mVar 3) (mCons (mOp subD (mUn negD (mPure (.int 1))) (mCallI F__law_draw 2 (mCons (mPure (.int 99)) mNil))) mNil))) (mPure .none))) (mRet (mPure (.bool false))) (mPure .nx))
    (mSeq (mAsg (mOp addD (mOp powD (mPure (.int 10)) (mPure (.int 29))) (mCallI F__law_draw 2 (mCons (mOp powD (mPure (.int 10)) (mPure (.int 12))) mNil))) (gV 7))
    (mSeq (mAsg (mOp fdivD (mOp subD (mVar 7) (mOp mulD (mOp subD (mVar 4) (mPure (.int 1))) (mOp subD (mVar 4) (mPure (.int 1))))) (mVar 4)) (gV 8))
    (mSeq (mAsg (mOp ixD (mVar 5) (mOp subD (mVar 7) (mOp mulD (mVar 8) (mVar 4)))) (gV 9))
    (mSeq (mIfS (mTru boolD (mOp neD (mUn reprD (mCall (fnV F_fewest) (mCons (mVar 3) (mCons (mVar 7) mNil)))) (mUn reprD (mIf (mTru boolD (mOp isD (mVar 9) (mPure .none))) (mPure .none) (mOp addD (mVar 9) (mVar 8)))))) (mRet (mPure (.bool false))) (mPure .nx))
    (mSeq (mIfS (mAnd (mTru boolD (mOp gtD (mOp ixD (mVar 3) (mPure (.int 0))) (mPure (.int 1)))) (mNot (mTru truD (mCall (fnV F__law_refused) (mCons (mVar 3) mNil))))) (mRet (mPure (.bool false))) (mPure .nx))
    (mSeq (mAsg (mIf (mTru boolD (mOp eqD (mOp ixD (mVar 3) (mPure (.int 0))) (mPure (.int 1)))) (mVar 3) (mUn tupD (mFz (mUnL sortedD (mOp addD (mCa (fun xs => if xs.length ≤ sizeLine then some (.tuple xs) else none) (mCons (mPure (.int 1)) mNil)) (mSl slD (mVar 3) (mPure none) (mPart (mPure (.int 4))))))))) (gV 10))
    (mSeq (mAsg (mCall (fnV F__law_fewest) (mCons (mVar 10) (mCons (mOp addD (mOp mulD (mOp subD (mOp ixD (mVar 10) (mUn negD (mPure (.int 1)))) (mPure (.int 1))) (mOp subD (mOp ixD (mVar 10) (mUn negD (mPure (.int 1)))) (mPure (.int 1)))) (mOp mulD (mPure (.int 3)) (mOp ixD (mVar 10) (mUn negD (mPure (.int 1)))))) mNil))) (gV 5))
    (mSeq (mAsg (mCall (fnV F_fewest_table) (mCons (mVar 10) mNil)) (gV 11))
    (mIfS (mOr (mTru boolD (mOp neD (mUn reprD (mCall (fnV F_fewest_table) (mArgsK [0] mNil (mCons (mVar 10) mNil)))) (mUn reprD (mVar 11)))) (mNot (mTru truD (mCall (fnV F__law_is_table) (mCons (mVar 11) (mCons (mVar 10) (mCons (mVar 5) mNil))))))) (mRet (mPure (.bool false))) (mPure .nx))))))))))))))))
theorem law_is : m_law = mSeq (mFor (gIt rangeD (mCons (mCa max2D (mCons (mPure (.int 1)) (mCons (mCa min2D (mCons (mPure (.int 3)) (mCons (mUn lenD (mVar 0)) mNil))) mNil))) mNil)) (gV 1) bodyM []) (mRet (mPure (.bool true))) := rfl
theorem in_loop {cs : List Nat} (hc : Coins cs) {N : Nat} {l : List Nat} (hl : ∀ n ∈ l, n < 900000) {v0 v1 v2 v4 v6 v7 v8 v9 v10 v11 : Option Slot} (h6 : NT v6) (h9 : NT v9) :
    ∃ w6 w9, NT w6 ∧ NT w9 ∧ loopM (gV 6) inM [] (l.map fun (n : Nat) => PyData.int (n : Int)) [v0, v1, v2, some (.val (.tuple (enC cs))), v4, some (.val (.list (enT (tab cs N)))), v6, v7, v8, v9, v10, v11] = some (.ok .nx, [v0, v1, v2, some (.val (.tuple (enC cs))), v4, some (.val (.list (enT (tab cs N)))), w6, v7, v8, w9, v10, v11]) := by
  obtain ⟨η', h, w6, w9, a, b, rfl⟩ := loop_inv (gm := gV 6) (ms := inM) (xs := l.map fun (n : Nat) => PyData.int (n : Int)) (fun _ η => ∃ w6 w9, NT w6 ∧ NT w9 ∧ η = [v0, v1, v2, some (.val (.tuple (enC cs))), v4, some (.val (.list (enT (tab cs N)))), w6, v7, v8, w9, v10, v11])
    (fun k x η hx ⟨w6, w9, a, b, hη⟩ => by
      subst hη
      rw [List.getElem?_map] at hx
      obtain ⟨n, hn, rfl⟩ := Option.map_eq_some_iff.mp hx
      obtain ⟨u9, hu, e⟩ := in_turn hc (N := N) (n := n) (hl n (List.mem_of_getElem? hn)) (v0 := v0) (v1 := v1) (v2 := v2) (v4 := v4) (v7 := v7) (v8 := v8) (v9 := w9) (v10 := v10) (v11 := v11) b
      exact ⟨_, _, st_nt (v := w6) rfl a, e, _, u9, nt_val, hu, rfl⟩)
    (η := [v0, v1, v2, some (.val (.tuple (enC cs))), v4, some (.val (.list (enT (tab cs N)))), v6, v7, v8, v9, v10, v11]) ⟨v6, v9, h6, h9, rfl⟩
  exact ⟨w6, w9, a, b, h⟩
def Sl (ns : List Int) (η : EnvD) : Prop := ∃ v1 v2 v3 v4 v5 v6 v7 v8 v9 v10 v11, NT v1 ∧ NT v2 ∧ NT v3 ∧ NT v4 ∧ NT v5 ∧ NT v6 ∧ NT v7 ∧ NT v8 ∧ NT v9 ∧ NT v10 ∧ NT v11 ∧ η = [some (.val (.list (ns.map .int))), v1, v2, v3, v4, v5, v6, v7, v8, v9, v10, v11]
theorem turn {ns : List Int} {k : Nat} (hk : k < 1000) {v2 v3 v4 v5 v6 v7 v8 v9 v10 v11 : Option Slot} (n2 : NT v2) (n3 : NT v3) (n4 : NT v4) (n5 : NT v5) (n6 : NT v6) (n7 : NT v7) (n8 : NT v8) (n9 : NT v9) (n10 : NT v10) (n11 : NT v11) : ∃ η2, bodyM [some (.val (.list (ns.map .int))), some (.val (.int (k : Int))), v2, v3, v4, v5, v6, v7, v8, v9, v10, v11] = some (.ok .nx, η2) ∧ Sl ns η2 := by
  obtain ⟨xs, hw, w0⟩ := well_ok ns k (by omega) (by omega)
  obtain ⟨cs', x0, hc, hcoins, w1⟩ := law_coins w0 (by omega)
  obtain ⟨c, cs, rfl⟩ : ∃ c cs, cs' = c :: cs := by
    cases cs' with
    | nil => exact absurd rfl hc.ne
    | cons c cs => exact ⟨c, cs, rfl⟩
  obtain ⟨g, tp⟩ := top_of hc
  have g1 := tp.one
  have g2 := tp.sixty
  have hB : ((g : Int) - 1) * ((g : Int) - 1) = (((g - 1) * (g - 1) : Nat) : Int) := by
    have e : (g : Int) - 1 = ((g - 1 : Nat) : Int) := by omega
    rw [e, ← Int.natCast_mul]
  have hB2 : (g - 1) * (g - 1) ≤ 59 * 59 := Nat.mul_le_mul (by omega) (by omega)
  have htimes := fun t n h => best_times (cs := c :: cs) (fun d h => (hc.le d h).1) tp.mem tp.le t n h
  generalize hb : (g - 1) * (g - 1) = B at hB hB2 htimes
  have hmul : mulD (.int ((g : Int) - 1)) (.int ((g : Int) - 1)) = some (.int (B : Int)) := by rw [← hB]; exact mulD_r (by omega)
  obtain ⟨r1, x1, d1, a1, b1, w2⟩ := draw_ok (many := 60) w1 (by omega) (by decide) (by decide)
  obtain ⟨r1, rfl⟩ := Int.eq_ofNat_of_zero_le a1
  obtain ⟨r2, x2, d2, a2, b2, w3⟩ := draw_ok (many := ((enT (tab (c :: cs) (B + 3 * g))).length : Int)) w2 (by omega) (by rw [enT_len]; omega) (by rw [enT_len]; omega)
  obtain ⟨r2, rfl⟩ := Int.eq_ofNat_of_zero_le a2
  rw [enT_len] at b2
  obtain ⟨r3, x3, d3, a3, b3, w4⟩ := draw_ok (many := 99) w3 (by omega) (by decide) (by decide)
  obtain ⟨r4, x4, d4, a4, b4, w5⟩ := draw_ok (many := 1000000000000) w4 (by omega) (by decide) (by decide)
  obtain ⟨r4, rfl⟩ := Int.eq_ofNat_of_zero_le a4
  obtain ⟨q, n0, f1, f2, f3, f4, f5⟩ := far_of B g r4 g1 (by omega)
  have hfar : fnV F_fewest [.tuple (enC (c :: cs)), .int (100000000000000000000000000000 + (r4 : Int))] = some (.ok (.d (enO (best (c :: cs) (100000000000000000000000000000 + r4))))) := by
    have := few_ok hc (100000000000000000000000000000 + r4)
    rw [Int.natCast_add] at this
    exact this
  have hbest := htimes q n0 (.inl (by omega))
  rw [← f3] at hbest
  obtain ⟨tf, tf1, tf2⟩ := rep_en (L := 40) (by decide) (by decide) (bst_lt hc (n := 100000000000000000000000000000 + r4) (L := 40) (by omega))
  obtain ⟨os, ho, hown⟩ := own_of hc
  obtain ⟨h, tp2⟩ := top_of ho
  have h1m : 1 ∈ 1 :: os := List.mem_cons_self
  have h1 := tp2.one
  have h2 := tp2.sixty
  have hD : ((h : Int) - 1) * ((h : Int) - 1) = (((h - 1) * (h - 1) : Nat) : Int) := by
    have e : (h : Int) - 1 = ((h - 1 : Nat) : Int) := by omega
    rw [e, ← Int.natCast_mul]
  have hD2 : (h - 1) * (h - 1) ≤ 59 * 59 := Nat.mul_le_mul (by omega) (by omega)
  have hmul2 : mulD (.int ((h : Int) - 1)) (.int ((h : Int) - 1)) = some (.int (((h - 1) * (h - 1) : Nat) : Int)) := by rw [← hD]; exact mulD_r (by omega)
  obtain ⟨s, s1, s2, s3, hround⟩ := round_table ho h1m tp2
  have htab := table_ok ho rfl hround
  have hist := is_table ho h1m tp2 s1 s2 s3
  generalize hd : (h - 1) * (h - 1) = D at hD hD2 hmul2 s1 hround htab hist
  obtain ⟨tt, tt1, tt2⟩ := told_num ho h1m (g := h) (s := s) (N := D + 2 * h) (by omega) (by omega) (by omega)
  have hlf : fnV F__law_fewest [.tuple (enC (c :: cs)), .int ((B : Int) + 3 * (g : Int))] = some (.ok (.l (enT (tab (c :: cs) (B + 3 * g))))) := by
    have := law_fewest hc (n := B + 3 * g) (by omega)
    rwa [show ((B + 3 * g : Nat) : Int) = (B : Int) + 3 * (g : Int) by omega] at this
  have hlf2 : fnV F__law_fewest [.tuple (enC (1 :: os)), .int ((D : Int) + 3 * (h : Int))] = some (.ok (.l (enT (tab (1 :: os) (D + 3 * h))))) := by
    have := law_fewest ho (n := D + 3 * h) (by omega)
    rwa [show ((D + 3 * h : Nat) : Int) = (D : Int) + 3 * (h : Int) by omega] at this
  obtain ⟨w6, w9, m6, m9, hloop⟩ := in_loop hc (N := B + 3 * g) (l := [0, 1, r1, r2, B + 3 * g]) (fun n hn => by
    simp only [List.mem_cons, List.not_mem_nil, or_false] at hn
    omega) (v0 := some (.val (.list (ns.map .int)))) (v1 := some (.val (.int (k : Int)))) (v2 := some (.own false x2)) (v4 := some (.val (.int (g : Int)))) (v7 := v7) (v8 := v8) (v10 := v10) (v11 := v11) n6 n9
  refine ⟨[some (.val (.list (ns.map .int))), some (.val (.int (k : Int))), some (.own false x4), some (.val (.tuple (enC (c :: cs)))), some (.val (.int (g : Int))), some (.val (.list (enT (tab (1 :: os) (D + 3 * h))))), w6, some (.val (.int (100000000000000000000000000000 + (r4 : Int)))), some (.val (.int (q : Int))), some (.val (enO (best (c :: cs) n0))), some (.val (.tuple (enC (1 :: os)))), some (.val (.tuple [.int (s : Int), .int (h : Int), .int 1, .tuple ((enT (tab (1 :: os) (D + 2 * h))).take (s + h))]))], ?_, _, _, _, _, _, _, _, _, _, _, _, nt_val, nt_own, nt_val, nt_val, nt_val, m6, nt_val, nt_val, nt_val, nt_val, nt_val, rfl⟩
  unfold bodyM
  apply s_seq (η1 := [some (.val (.list (ns.map .int))), some (.val (.int (k : Int))), some (.own false xs), v3, v4, v5, v6, v7, v8, v9, v10, v11])
  · exact s_asgL (e_callL (e_cons (e_var rfl) (e_cons (e_var rfl) e_nil)) hw) (st_nt (v := v2) rfl n2)
  apply s_seq (η1 := [some (.val (.list (ns.map .int))), some (.val (.int (k : Int))), some (.own false x0), some (.val (.tuple (enC (c :: cs)))), v4, v5, v6, v7, v8, v9, v10, v11])
  · exact s_asg (e_callI (o := false) rfl e_nil rfl hcoins) (st_nt (v := v3) rfl n3)
  apply s_seq (η1 := [some (.val (.list (ns.map .int))), some (.val (.int (k : Int))), some (.own false x0), some (.val (.tuple (enC (c :: cs)))), some (.val (.int (g : Int))), v5, v6, v7, v8, v9, v10, v11])
  · exact s_asg (e_op (e_var rfl) (e_un e_pure neg1) tp.ix) (st_nt (v := v4) rfl n4)
  apply s_seq (η1 := [some (.val (.list (ns.map .int))), some (.val (.int (k : Int))), some (.own false x0), some (.val (.tuple (enC (c :: cs)))), some (.val (.int (g : Int))), some (.val (.list (enT (tab (c :: cs) (B + 3 * g))))), v6, v7, v8, v9, v10, v11])
  · exact s_asg (e_call (e_cons (e_var rfl) (e_cons (e_op (e_op (e_op (e_var rfl) e_pure subD_e) (e_op (e_var rfl) e_pure subD_e) hmul) (e_op e_pure (e_var rfl) (mulD_r (by omega))) addD_e) e_nil)) hlf) (st_nt (v := v5) rfl n5)
  apply s_seq (η1 := [some (.val (.list (ns.map .int))), some (.val (.int (k : Int))), some (.own false x2), some (.val (.tuple (enC (c :: cs)))), some (.val (.int (g : Int))), some (.val (.list (enT (tab (c :: cs) (B + 3 * g))))), w6, v7, v8, w9, v10, v11])
  · refine s_for (e_iter (e_fz (e_caL (e_cons e_pure (e_cons e_pure (e_cons (e_callI (o := false) rfl (e_cons e_pure e_nil) rfl d1) (e_cons (e_callI (o := false) rfl (e_cons (e_un (e_var rfl) len_l) e_nil) rfl d2) (e_cons (e_op (e_un (e_var rfl) len_l) e_pure subD_e) e_nil))))) (if_pos (by rw [line_eq]; show 5 ≤ 16777216; omega)))) it_l) ?_
    have e : (((enT (tab (c :: cs) (B + 3 * g))).length : Nat) : Int) - 1 = ((B + 3 * g : Nat) : Int) := by rw [enT_len]; omega
    rw [e]
    exact hloop
  apply s_seq (η1 := [some (.val (.list (ns.map .int))), some (.val (.int (k : Int))), some (.own false x3), some (.val (.tuple (enC (c :: cs)))), some (.val (.int (g : Int))), some (.val (.list (enT (tab (c :: cs) (B + 3 * g))))), w6, v7, v8, w9, v10, v11])
  · exact s_ifF (b := false) (e_tru (e_op (e_call (e_cons (e_var rfl) (e_cons (e_op (e_un e_pure neg1) (e_callI (o := false) rfl (e_cons e_pure e_nil) rfl d3) subD_e) e_nil)) (fewest_of hc (least_neg (by show (-1 : Int) - r3 < 0; omega)))) e_pure rfl) rfl) rfl e_pure
  apply s_seq (η1 := [some (.val (.list (ns.map .int))), some (.val (.int (k : Int))), some (.own false x4), some (.val (.tuple (enC (c :: cs)))), some (.val (.int (g : Int))), some (.val (.list (enT (tab (c :: cs) (B + 3 * g))))), w6, some (.val (.int (100000000000000000000000000000 + (r4 : Int)))), v8, w9, v10, v11])
  · exact s_asg (e_op (e_op e_pure e_pure p10_29) (e_callI (o := false) rfl (e_cons (e_op e_pure e_pure p10_12) e_nil) rfl d4) addD_e) (st_nt (v := v7) rfl n7)
  apply s_seq (η1 := [some (.val (.list (ns.map .int))), some (.val (.int (k : Int))), some (.own false x4), some (.val (.tuple (enC (c :: cs)))), some (.val (.int (g : Int))), some (.val (.list (enT (tab (c :: cs) (B + 3 * g))))), w6, some (.val (.int (100000000000000000000000000000 + (r4 : Int)))), some (.val (.int (q : Int))), w9, v10, v11])
  · refine s_asg (x := .int (q : Int)) (e_op (e_op (e_var rfl) (e_op (e_op (e_var rfl) e_pure subD_e) (e_op (e_var rfl) e_pure subD_e) hmul) subD_e) (e_var rfl) ?_) (st_nt (v := v8) rfl n8)
    rw [← f1]
    exact fdivD_e (by omega) (by omega)
  apply s_seq (η1 := [some (.val (.list (ns.map .int))), some (.val (.int (k : Int))), some (.own false x4), some (.val (.tuple (enC (c :: cs)))), some (.val (.int (g : Int))), some (.val (.list (enT (tab (c :: cs) (B + 3 * g))))), w6, some (.val (.int (100000000000000000000000000000 + (r4 : Int)))), some (.val (.int (q : Int))), some (.val (enO (best (c :: cs) n0))), v10, v11])
  · exact s_asg (e_op (e_var rfl) (e_op (e_var rfl) (e_op (e_var rfl) (e_var rfl) (mulD_r (by omega))) subD_e) (tab_ix f2 (by omega))) (st_nt (v := w9) rfl m9)
  apply s_seq (η1 := [some (.val (.list (ns.map .int))), some (.val (.int (k : Int))), some (.own false x4), some (.val (.tuple (enC (c :: cs)))), some (.val (.int (g : Int))), some (.val (.list (enT (tab (c :: cs) (B + 3 * g))))), w6, some (.val (.int (100000000000000000000000000000 + (r4 : Int)))), some (.val (.int (q : Int))), some (.val (enO (best (c :: cs) n0))), v10, v11])
  · have hv : mIf (mTru boolD (mOp isD (mVar 9) (mPure .none))) (mPure .none) (mOp addD (mVar 9) (mVar 8)) [some (.val (.list (ns.map .int))), some (.val (.int (k : Int))), some (.own false x4), some (.val (.tuple (enC (c :: cs)))), some (.val (.int (g : Int))), some (.val (.list (enT (tab (c :: cs) (B + 3 * g))))), w6, some (.val (.int (100000000000000000000000000000 + (r4 : Int)))), some (.val (.int (q : Int))), some (.val (enO (best (c :: cs) n0))), v10, v11] = some (.ok (enO (best (c :: cs) (100000000000000000000000000000 + r4))), [some (.val (.list (ns.map .int))), some (.val (.int (k : Int))), some (.own false x4), some (.val (.tuple (enC (c :: cs)))), some (.val (.int (g : Int))), some (.val (.list (enT (tab (c :: cs) (B + 3 * g))))), w6, some (.val (.int (100000000000000000000000000000 + (r4 : Int)))), some (.val (.int (q : Int))), some (.val (enO (best (c :: cs) n0))), v10, v11]) := by
      rw [hbest]
      cases e : best (c :: cs) n0 with
      | none => exact e_ifT (e_tru (e_op (e_var rfl) e_pure (is_enO _)) boolD_e) rfl e_pure
      | some k =>
        refine e_ifF (e_tru (e_op (e_var rfl) e_pure (is_enO _)) boolD_e) rfl (e_op (e_var rfl) (e_var rfl) ?_)
        exact enO_add (some k) q (by simp)
    exact s_ifF (b := false) (e_tru (e_op (e_un (e_call (e_cons (e_var rfl) (e_cons (e_var rfl) e_nil)) hfar) tf1) (e_un hv tf1) (ne_str tf2)) rfl) rfl e_pure
  apply s_seq (η1 := [some (.val (.list (ns.map .int))), some (.val (.int (k : Int))), some (.own false x4), some (.val (.tuple (enC (c :: cs)))), some (.val (.int (g : Int))), some (.val (.list (enT (tab (c :: cs) (B + 3 * g))))), w6, some (.val (.int (100000000000000000000000000000 + (r4 : Int)))), some (.val (.int (q : Int))), some (.val (enO (best (c :: cs) n0))), v10, v11])
  · by_cases ec : c = 1
    · refine s_ifF (e_andF (b := false) (e_tru (e_op (e_op (e_var rfl) e_pure first_ix) e_pure gtD_e) ?_) rfl) rfl e_pure
      rw [decide_eq_false (by omega)]; rfl
    · refine s_ifF (e_andT (b := true) (e_tru (e_op (e_op (e_var rfl) e_pure first_ix) e_pure gtD_e) ?_) rfl (e_notT (b := true) (e_tru (e_call (e_cons (e_var rfl) e_nil) (refused hc ec)) tru_b))) rfl e_pure
      have := (hc.le c List.mem_cons_self).1
      rw [decide_eq_true (by omega)]; rfl
  apply s_seq (η1 := [some (.val (.list (ns.map .int))), some (.val (.int (k : Int))), some (.own false x4), some (.val (.tuple (enC (c :: cs)))), some (.val (.int (g : Int))), some (.val (.list (enT (tab (c :: cs) (B + 3 * g))))), w6, some (.val (.int (100000000000000000000000000000 + (r4 : Int)))), some (.val (.int (q : Int))), some (.val (enO (best (c :: cs) n0))), some (.val (.tuple (enC (1 :: os)))), v11])
  · exact s_asg (hown _ rfl) (st_nt (v := v10) rfl n10)
  apply s_seq (η1 := [some (.val (.list (ns.map .int))), some (.val (.int (k : Int))), some (.own false x4), some (.val (.tuple (enC (c :: cs)))), some (.val (.int (g : Int))), some (.val (.list (enT (tab (1 :: os) (D + 3 * h))))), w6, some (.val (.int (100000000000000000000000000000 + (r4 : Int)))), some (.val (.int (q : Int))), some (.val (enO (best (c :: cs) n0))), some (.val (.tuple (enC (1 :: os)))), v11])
  · exact s_asg (e_call (e_cons (e_var rfl) (e_cons (e_op (e_op (e_op (e_op (e_var rfl) (e_un e_pure neg1) tp2.ix) e_pure subD_e) (e_op (e_op (e_var rfl) (e_un e_pure neg1) tp2.ix) e_pure subD_e) hmul2) (e_op e_pure (e_op (e_var rfl) (e_un e_pure neg1) tp2.ix) (mulD_r (by omega))) addD_e) e_nil)) hlf2) (st_nt (v := some (.val (.list (enT (tab (c :: cs) (B + 3 * g)))))) rfl nt_val)
  apply s_seq (η1 := [some (.val (.list (ns.map .int))), some (.val (.int (k : Int))), some (.own false x4), some (.val (.tuple (enC (c :: cs)))), some (.val (.int (g : Int))), some (.val (.list (enT (tab (1 :: os) (D + 3 * h))))), w6, some (.val (.int (100000000000000000000000000000 + (r4 : Int)))), some (.val (.int (q : Int))), some (.val (enO (best (c :: cs) n0))), some (.val (.tuple (enC (1 :: os)))), some (.val (.tuple [.int (s : Int), .int (h : Int), .int 1, .tuple ((enT (tab (1 :: os) (D + 2 * h))).take (s + h))]))])
  · exact s_asg (e_call (e_cons (e_var rfl) e_nil) htab) (st_nt (v := v11) rfl n11)
  exact s_ifF (e_orF (b := false) (e_tru (e_op (e_un (e_call (e_argsK e_nil (e_cons (e_var rfl) e_nil)) htab) tt1) (e_un (e_var rfl) tt1) (ne_str tt2)) rfl) rfl (e_notT (b := true) (e_tru (e_call (e_cons (e_var rfl) (e_cons (e_var rfl) (e_cons (e_var rfl) e_nil))) hist) tru_b))) rfl e_pure
theorem plain_law : ∀ ns : List Int, ns.length ≤ 63 → fnV F_law [.list (ns.map .int)] = some (.ok (.d (.bool true))) := by
  intro ns hns
  obtain ⟨j, hj, hj2⟩ : ∃ j : Int, (mCa max2D (mCons (mPure (.int 1)) (mCons (mCa min2D (mCons (mPure (.int 3)) (mCons (mUn lenD (mVar 0)) mNil))) mNil))) [some (.val (.list (ns.map .int))), none, none, none, none, none, none, none, none, none, none, none] = some (.ok (.int j), [some (.val (.list (ns.map .int))), none, none, none, none, none, none, none, none, none, none, none]) ∧ 1 ≤ j ∧ j ≤ 3 := by
    refine ⟨_, e_ca (e_cons e_pure (e_cons (e_ca (e_cons e_pure (e_cons (e_un (e_var rfl) len_l) e_nil)) rfl) e_nil)) rfl, ?_, ?_⟩ <;> split <;> (try split) <;> omega
  obtain ⟨η', hl, hS⟩ := loop_inv (gm := gV 1) (ms := bodyM) (xs := rngL 0 j.toNat) (fun _ η => Sl ns η)
    (fun k x η hx ⟨v1, v2, v3, v4, v5, v6, v7, v8, v9, v10, v11, n1, n2, n3, n4, n5, n6, n7, n8, n9, n10, n11, e⟩ => by
      subst e
      obtain ⟨hlt, rfl⟩ := rng_get hx
      rw [show (0 : Int) + (k : Int) = (k : Int) by omega]
      obtain ⟨η2, e2, s2⟩ := turn (ns := ns) (k := k) (by omega) n2 n3 n4 n5 n6 n7 n8 n9 n10 n11
      exact ⟨_, η2, st_nt (v := v1) rfl n1, e2, s2⟩)
    (η := [some (.val (.list (ns.map .int))), none, none, none, none, none, none, none, none, none, none, none]) ⟨none, none, none, none, none, none, none, none, none, none, none, nt_none, nt_none, nt_none, nt_none, nt_none, nt_none, nt_none, nt_none, nt_none, nt_none, nt_none, rfl⟩
  obtain ⟨v1, v2, v3, v4, v5, v6, v7, v8, v9, v10, v11, n1, n2, n3, n4, n5, n6, n7, n8, n9, n10, n11, rfl⟩ := hS
  refine fnV_of (η1 := [none]) ?_
  unfold F_law
  rw [law_is]
  walk_at "dl frun"
  · apply s_seq
    · exact s_for (e_gIt (e_cons hj e_nil) (range1 (by omega) (by omega))) hl
    · exact s_ret e_pure
  · rfl
end G44
end
section
set_option Elab.async false
set_option linter.all false
set_option maxRecDepth 100000
set_option maxHeartbeats 4000000
namespace G44
open PySem PySem.Spec PyProof.Rows L2 L2.DL
set_option autoImplicit false
abbrev PP : Program := PySem.Challenge.rw_cutswhole_k44_fewest_coins.prog
theorem all_mk {w : World} {K : PySem.W.Frag} {h : Heap} {mg : Str → Option Value} {fa f__law_well f__law_draw f__law_coins f__law_fewest f_is_integer f_is_between f_are_coins f_anew f_need_coins f_fewest_to f_round_table f_fewest_table f_least_count f_fewest f__law_refused f__law_is_table f_law D_ fI_ cda_ cc_ C_InvalidCoins : Addr} (X : K.In h) (G : h.Ns mainGlobals mg) (hfa : mg "law" = some (.ref fa))
    {oc__law_well kV__law_well dc__law_well pm__law_well cd__law_well ct__law_well oc__law_draw kV__law_draw dc__law_draw pm__law_draw cd__law_draw ct__law_draw oc__law_coins kV__law_coins dc__law_coins pm__law_coins cd__law_coins ct__law_coins oc__law_fewest kV__law_fewest dc__law_fewest pm__law_fewest cd__law_fewest ct__law_fewest oc_is_integer kV_is_integer dc_is_integer pm_is_integer cd_is_integer ct_is_integer oc_is_between kV_is_between dc_is_between pm_is_between cd_is_between ct_is_between oc_are_coins kV_are_coins dc_are_coins pm_are_coins cd_are_coins ct_are_coins oc_anew kV_anew dc_anew pm_anew cd_anew ct_anew oc_need_coins kV_need_coins dc_need_coins pm_need_coins cd_need_coins ct_need_coins oc_fewest_to kV_fewest_to dc_fewest_to pm_fewest_to cd_fewest_to ct_fewest_to oc_round_table kV_round_table dc_round_table pm_round_table cd_round_table ct_round_table oc_fewest_table kV_fewest_table dc_fewest_table pm_fewest_table cd_fewest_table ct_fewest_table oc_least_count kV_least_count dc_least_count pm_least_count cd_least_count ct_least_count oc_fewest kV_fewest dc_fewest pm_fewest cd_fewest ct_fewest oc__law_refused kV__law_refused dc__law_refused pm__law_refused cd__law_refused ct__law_refused oc__law_is_table kV__law_is_table dc__law_is_table pm__law_is_table cd__law_is_table ct__law_is_table oc_law kV_law dc_law pm_law cd_law ct_law oc_I dc_I pm_I ct_I ccl_ cl_ : Value} {od__law_well an__law_well od__law_draw an__law_draw od__law_coins an__law_coins od__law_fewest an__law_fewest od_is_integer an_is_integer od_is_between an_is_between od_are_coins an_are_coins od_anew an_anew od_need_coins an_need_coins od_fewest_to an_fewest_to od_round_table an_round_table od_fewest_table an_fewest_table od_least_count an_least_count od_fewest an_fewest od__law_refused an__law_refused od__law_is_table an__law_is_table od_law an_law od_I an_I cdd_ cld_ : Option Addr} {sl__law_well sl__law_draw sl__law_coins sl__law_fewest sl_is_integer sl_is_between sl_are_coins sl_anew sl_need_coins sl_fewest_to sl_round_table sl_fewest_table sl_least_count sl_fewest sl__law_refused sl__law_is_table sl_law sl_I ccs_ csl_ : Array (Option Value)} {t_MOST_COIN t_MOST_COINS : Tok} {vs_ : Array Value} {file_ : Str} {tf_ : Tok} {nm_InvalidCoins q_InvalidCoins : Str} {N_InvalidCoins : Addr} {bs_InvalidCoins bm_InvalidCoins : List Value} {sn_InvalidCoins : List Str} {sub_InvalidCoins : List Value} {ab_InvalidCoins : Bool} {col_InvalidCoins : Option Bool} {dd_InvalidCoins : Option Addr} {k0_InvalidCoins k1_InvalidCoins k2_InvalidCoins k3_InvalidCoins k5_InvalidCoins : Option Value}
    (a__law_well : PySem.W.nsIn K mainGlobals "_law_well" = some (some (.ref f__law_well)))
    (l__law_well : K.lookup f__law_well = some ⟨oc__law_well, od__law_well, .func (PySem.W.fnOf "_law_well" "_law_well" (defArgs st__law_well) (defBody st__law_well) (defScope st__law_well) .none kV__law_well dc__law_well pm__law_well an__law_well cd__law_well ct__law_well), sl__law_well⟩)
    (c__law_well : PySem.W.codeIn K cd__law_well "_law_well" = true)
    (k__law_well : PySem.W.keepIn K (.ref f__law_well) = true)
    (a__law_draw : PySem.W.nsIn K mainGlobals "_law_draw" = some (some (.ref f__law_draw)))
    (l__law_draw : K.lookup f__law_draw = some ⟨oc__law_draw, od__law_draw, .func (PySem.W.fnOf "_law_draw" "_law_draw" (defArgs st__law_draw) (defBody st__law_draw) (defScope st__law_draw) .none kV__law_draw dc__law_draw pm__law_draw an__law_draw cd__law_draw ct__law_draw), sl__law_draw⟩)
    (c__law_draw : PySem.W.codeIn K cd__law_draw "_law_draw" = true)
    (k__law_draw : PySem.W.keepIn K (.ref f__law_draw) = true)
    (a__law_coins : PySem.W.nsIn K mainGlobals "_law_coins" = some (some (.ref f__law_coins)))
    (l__law_coins : K.lookup f__law_coins = some ⟨oc__law_coins, od__law_coins, .func (PySem.W.fnOf "_law_coins" "_law_coins" (defArgs st__law_coins) (defBody st__law_coins) (defScope st__law_coins) .none kV__law_coins dc__law_coins pm__law_coins an__law_coins cd__law_coins ct__law_coins), sl__law_coins⟩)
    (c__law_coins : PySem.W.codeIn K cd__law_coins "_law_coins" = true)
    (k__law_coins : PySem.W.keepIn K (.ref f__law_coins) = true)
    (a__law_fewest : PySem.W.nsIn K mainGlobals "_law_fewest" = some (some (.ref f__law_fewest)))
    (l__law_fewest : K.lookup f__law_fewest = some ⟨oc__law_fewest, od__law_fewest, .func (PySem.W.fnOf "_law_fewest" "_law_fewest" (defArgs st__law_fewest) (defBody st__law_fewest) (defScope st__law_fewest) .none kV__law_fewest dc__law_fewest pm__law_fewest an__law_fewest cd__law_fewest ct__law_fewest), sl__law_fewest⟩)
    (c__law_fewest : PySem.W.codeIn K cd__law_fewest "_law_fewest" = true)
    (k__law_fewest : PySem.W.keepIn K (.ref f__law_fewest) = true)
    (a_is_integer : PySem.W.nsIn K mainGlobals "is_integer" = some (some (.ref f_is_integer)))
    (l_is_integer : K.lookup f_is_integer = some ⟨oc_is_integer, od_is_integer, .func (PySem.W.fnOf "is_integer" "is_integer" (defArgs st_is_integer) (defBody st_is_integer) (defScope st_is_integer) .none kV_is_integer dc_is_integer pm_is_integer an_is_integer cd_is_integer ct_is_integer), sl_is_integer⟩)
    (c_is_integer : PySem.W.codeIn K cd_is_integer "is_integer" = true)
    (k_is_integer : PySem.W.keepIn K (.ref f_is_integer) = true)
    (a_is_between : PySem.W.nsIn K mainGlobals "is_between" = some (some (.ref f_is_between)))
    (l_is_between : K.lookup f_is_between = some ⟨oc_is_between, od_is_between, .func (PySem.W.fnOf "is_between" "is_between" (defArgs st_is_between) (defBody st_is_between) (defScope st_is_between) .none kV_is_between dc_is_between pm_is_between an_is_between cd_is_between ct_is_between), sl_is_between⟩)
    (c_is_between : PySem.W.codeIn K cd_is_between "is_between" = true)
    (k_is_between : PySem.W.keepIn K (.ref f_is_between) = true)
    (a_are_coins : PySem.W.nsIn K mainGlobals "are_coins" = some (some (.ref f_are_coins)))
    (l_are_coins : K.lookup f_are_coins = some ⟨oc_are_coins, od_are_coins, .func (PySem.W.fnOf "are_coins" "are_coins" (defArgs st_are_coins) (defBody st_are_coins) (defScope st_are_coins) .none kV_are_coins dc_are_coins pm_are_coins an_are_coins cd_are_coins ct_are_coins), sl_are_coins⟩)
    (c_are_coins : PySem.W.codeIn K cd_are_coins "are_coins" = true)
    (k_are_coins : PySem.W.keepIn K (.ref f_are_coins) = true)
    (a_anew : PySem.W.nsIn K mainGlobals "anew" = some (some (.ref f_anew)))
    (l_anew : K.lookup f_anew = some ⟨oc_anew, od_anew, .func (PySem.W.fnOf "anew" "anew" (defArgs st_anew) (defBody st_anew) (defScope st_anew) .none kV_anew dc_anew pm_anew an_anew cd_anew ct_anew), sl_anew⟩)
    (c_anew : PySem.W.codeIn K cd_anew "anew" = true)
    (k_anew : PySem.W.keepIn K (.ref f_anew) = true)
    (a_need_coins : PySem.W.nsIn K mainGlobals "need_coins" = some (some (.ref f_need_coins)))
    (l_need_coins : K.lookup f_need_coins = some ⟨oc_need_coins, od_need_coins, .func (PySem.W.fnOf "need_coins" "need_coins" (defArgs st_need_coins) (defBody st_need_coins) (defScope st_need_coins) .none kV_need_coins dc_need_coins pm_need_coins an_need_coins cd_need_coins ct_need_coins), sl_need_coins⟩)
    (c_need_coins : PySem.W.codeIn K cd_need_coins "need_coins" = true)
    (k_need_coins : PySem.W.keepIn K (.ref f_need_coins) = true)
    (a_fewest_to : PySem.W.nsIn K mainGlobals "fewest_to" = some (some (.ref f_fewest_to)))
    (l_fewest_to : K.lookup f_fewest_to = some ⟨oc_fewest_to, od_fewest_to, .func (PySem.W.fnOf "fewest_to" "fewest_to" (defArgs st_fewest_to) (defBody st_fewest_to) (defScope st_fewest_to) .none kV_fewest_to dc_fewest_to pm_fewest_to an_fewest_to cd_fewest_to ct_fewest_to), sl_fewest_to⟩)
    (c_fewest_to : PySem.W.codeIn K cd_fewest_to "fewest_to" = true)
    (k_fewest_to : PySem.W.keepIn K (.ref f_fewest_to) = true)
    (a_round_table : PySem.W.nsIn K mainGlobals "round_table" = some (some (.ref f_round_table)))
    (l_round_table : K.lookup f_round_table = some ⟨oc_round_table, od_round_table, .func (PySem.W.fnOf "round_table" "round_table" (defArgs st_round_table) (defBody st_round_table) (defScope st_round_table) .none kV_round_table dc_round_table pm_round_table an_round_table cd_round_table ct_round_table), sl_round_table⟩)
    (c_round_table : PySem.W.codeIn K cd_round_table "round_table" = true)
    (k_round_table : PySem.W.keepIn K (.ref f_round_table) = true)
    (a_fewest_table : PySem.W.nsIn K mainGlobals "fewest_table" = some (some (.ref f_fewest_table)))
    (l_fewest_table : K.lookup f_fewest_table = some ⟨oc_fewest_table, od_fewest_table, .func (PySem.W.fnOf "fewest_table" "fewest_table" (defArgs st_fewest_table) (defBody st_fewest_table) (defScope st_fewest_table) .none kV_fewest_table dc_fewest_table pm_fewest_table an_fewest_table cd_fewest_table ct_fewest_table), sl_fewest_table⟩)
    (c_fewest_table : PySem.W.codeIn K cd_fewest_table "fewest_table" = true)
    (k_fewest_table : PySem.W.keepIn K (.ref f_fewest_table) = true)
    (a_least_count : PySem.W.nsIn K mainGlobals "least_count" = some (some (.ref f_least_count)))
    (l_least_count : K.lookup f_least_count = some ⟨oc_least_count, od_least_count, .func (PySem.W.fnOf "least_count" "least_count" (defArgs st_least_count) (defBody st_least_count) (defScope st_least_count) .none kV_least_count dc_least_count pm_least_count an_least_count cd_least_count ct_least_count), sl_least_count⟩)
    (c_least_count : PySem.W.codeIn K cd_least_count "least_count" = true)
    (k_least_count : PySem.W.keepIn K (.ref f_least_count) = true)
    (a_fewest : PySem.W.nsIn K mainGlobals "fewest" = some (some (.ref f_fewest)))
    (l_fewest : K.lookup f_fewest = some ⟨oc_fewest, od_fewest, .func (PySem.W.fnOf "fewest" "fewest" (defArgs st_fewest) (defBody st_fewest) (defScope st_fewest) .none kV_fewest dc_fewest pm_fewest an_fewest cd_fewest ct_fewest), sl_fewest⟩)
    (c_fewest : PySem.W.codeIn K cd_fewest "fewest" = true)
    (k_fewest : PySem.W.keepIn K (.ref f_fewest) = true)
    (a__law_refused : PySem.W.nsIn K mainGlobals "_law_refused" = some (some (.ref f__law_refused)))
    (l__law_refused : K.lookup f__law_refused = some ⟨oc__law_refused, od__law_refused, .func (PySem.W.fnOf "_law_refused" "_law_refused" (defArgs st__law_refused) (defBody st__law_refused) (defScope st__law_refused) .none kV__law_refused dc__law_refused pm__law_refused an__law_refused cd__law_refused ct__law_refused), sl__law_refused⟩)
    (c__law_refused : PySem.W.codeIn K cd__law_refused "_law_refused" = true)
    (k__law_refused : PySem.W.keepIn K (.ref f__law_refused) = true)
    (a__law_is_table : PySem.W.nsIn K mainGlobals "_law_is_table" = some (some (.ref f__law_is_table)))
    (l__law_is_table : K.lookup f__law_is_table = some ⟨oc__law_is_table, od__law_is_table, .func (PySem.W.fnOf "_law_is_table" "_law_is_table" (defArgs st__law_is_table) (defBody st__law_is_table) (defScope st__law_is_table) .none kV__law_is_table dc__law_is_table pm__law_is_table an__law_is_table cd__law_is_table ct__law_is_table), sl__law_is_table⟩)
    (c__law_is_table : PySem.W.codeIn K cd__law_is_table "_law_is_table" = true)
    (k__law_is_table : PySem.W.keepIn K (.ref f__law_is_table) = true)
    (a_law : PySem.W.nsIn K mainGlobals "law" = some (some (.ref f_law)))
    (l_law : K.lookup f_law = some ⟨oc_law, od_law, .func (PySem.W.fnOf "law" "law" (defArgs st_law) (defBody st_law) (defScope st_law) .none kV_law dc_law pm_law an_law cd_law ct_law), sl_law⟩)
    (c_law : PySem.W.codeIn K cd_law "law" = true)
    (k_law : PySem.W.keepIn K (.ref f_law) = true)
    (z_abs : PySem.W.nsIn K mainGlobals "abs" = some none)
    (z_all : PySem.W.nsIn K mainGlobals "all" = some none)
    (z_bool : PySem.W.nsIn K mainGlobals "bool" = some none)
    (z_int : PySem.W.nsIn K mainGlobals "int" = some none)
    (z_isinstance : PySem.W.nsIn K mainGlobals "isinstance" = some none)
    (z_len : PySem.W.nsIn K mainGlobals "len" = some none)
    (z_list : PySem.W.nsIn K mainGlobals "list" = some none)
    (z_max : PySem.W.nsIn K mainGlobals "max" = some none)
    (z_min : PySem.W.nsIn K mainGlobals "min" = some none)
    (z_range : PySem.W.nsIn K mainGlobals "range" = some none)
    (z_repr : PySem.W.nsIn K mainGlobals "repr" = some none)
    (z_set : PySem.W.nsIn K mainGlobals "set" = some none)
    (z_sorted : PySem.W.nsIn K mainGlobals "sorted" = some none)
    (z_tuple : PySem.W.nsIn K mainGlobals "tuple" = some none)
    (z_zip : PySem.W.nsIn K mainGlobals "zip" = some none)
    (v_MOST_COIN : PySem.W.nsIn K mainGlobals "MOST_COIN" = some (some (.int 60 t_MOST_COIN)))
    (v_MOST_COINS : PySem.W.nsIn K mainGlobals "MOST_COINS" = some (some (.int 5 t_MOST_COINS)))
    (a_D : PySem.W.nsIn K mainGlobals "CutError" = some (some (.ref D_)))
    (d_cls : (PySem.W.clsIn K D_).isSome = true)
    (d_ex : PySem.W.subIn K (.ref D_) (.type "BaseException") = some true)
    (d_hd : PySem.W.hasDictIn K D_ = true)
    (d_ty : PySem.W.typeIn K (.ref D_) = some (.type "type"))
    (n_tp : PySem.W.nsIn K cStatics "thirdparty.any" = some none)
    (n_su : PySem.W.nsIn K mainGlobals "super" = some none)
    (n_sp : PySem.W.specialIn K (.builtin "object.__class__") "__get__" = some (some (.builtin "getset_descriptor.__get__")))
    (n_tk : PySem.W.takesIn K (.builtin "object.__class__") = some true)
    (p_top : (PP.main.scope.names.lookup ("super" : Str)).isSome = false)
    (a_InvalidCoins : PySem.W.nsIn K mainGlobals "InvalidCoins" = some (some (.ref C_InvalidCoins)))
    (x_lInvalidCoins : K.lookup C_InvalidCoins = some (excClassObj nm_InvalidCoins q_InvalidCoins C_InvalidCoins N_InvalidCoins bs_InvalidCoins bm_InvalidCoins true sn_InvalidCoins sub_InvalidCoins ab_InvalidCoins col_InvalidCoins dd_InvalidCoins k0_InvalidCoins k1_InvalidCoins k2_InvalidCoins k3_InvalidCoins k5_InvalidCoins "ValueError.__new__"))
    (x_rInvalidCoins : PySem.HandSPX.refsVE bm_InvalidCoins = true)
    (x_saInvalidCoins : PySem.W.findIn K (.ref C_InvalidCoins) "__setattr__" = some (some (.builtin "object.__setattr__")))
    (x_gaInvalidCoins : PySem.W.findIn K (.ref C_InvalidCoins) "__getattribute__" = some (some (.builtin "BaseException.__getattribute__")))
    (x_ggInvalidCoins : PySem.W.findIn K (.ref C_InvalidCoins) "__getattr__" = some none)
    (x_nvInvalidCoins : PySem.W.findIn K (.ref C_InvalidCoins) "value" = some none)
    (x_inInvalidCoins : PySem.W.findIn K (.ref C_InvalidCoins) "__init__" = some (some (.ref fI_)))
    (x_clInvalidCoins : PySem.W.findIn K (.ref C_InvalidCoins) "__class__" = some (some (.builtin "object.__class__")))
    (x_kpInvalidCoins : PySem.W.keepIn K (.ref C_InvalidCoins) = true)
    (x_exInvalidCoins : PySem.W.subIn K (.ref C_InvalidCoins) (.type "BaseException") = some true)
    (x_veInvalidCoins : PySem.W.subIn K (.ref C_InvalidCoins) (.type "ValueError") = some true)
    (x_tyInvalidCoins : PySem.W.typeIn K (.ref C_InvalidCoins) = some (.type "type"))
    (x_hdInvalidCoins : PySem.W.hasDictIn K C_InvalidCoins = true)
    (x_mDInvalidCoins : PySem.W.mroIn K C_InvalidCoins (.ref D_) = some true)
    (x_moInvalidCoins : PySem.W.mroIn K C_InvalidCoins (.type "object") = some true)
    (x_spInvalidCoins : PySem.W.ks_superIn K C_InvalidCoins D_ "__init__" = some (some (.builtin "ValueError.__init__")))
    (x_koInvalidCoins : PySem.W.kitOne K (.type "NoneType") (.ref C_InvalidCoins) = some false)
    (x_sDInvalidCoins : PySem.W.subIn K (.ref C_InvalidCoins) (.ref D_) = some true)
    (i_lk : K.lookup fI_ = some ⟨oc_I, od_I, .func (PySem.W.ksFn "__init__" "CutError.__init__" PySem.CutX.iA PySem.CutX.iB PySem.CutX.iS .none .none dc_I pm_I an_I (.ref cda_) ct_I cc_), sl_I⟩)
    (i_cd : PySem.W.codeIn K (.ref cda_) "CutError.__init__" = true)
    (i_ca : K.lookup cda_ = some ⟨ccl_, cdd_, .fields vs_, ccs_⟩)
    (i_vs : vs_[2]? = some (.str file_ tf_))
    (i_fl : ((PP.main.file : Str) == file_) = true)
    (i_cc : K.lookup cc_ = some ⟨cl_, cld_, .cell (some (.ref D_)), csl_⟩)
    (i_ty : PySem.W.typeIn K (.ref fI_) = some (.type "function"))
    : ∃ fd : FuncData, (∀ (s : Shared) (u : Value), BindsTo s fd ⟨[u], []⟩ [("script", u)]) ∧ ∀ base : Heap, K.In base → base.Ns mainGlobals mg → FnG PP w K mg base (L2.CX PP w) 18 fa fd ["script"] spLawTop := by
  have e := hfa.symm.trans (PySem.W.mg_of X G a_law)
  cases e
  have CL : ∃ D : Addr, mg "CutError" = some (.ref D) ∧ ∀ nm ∈ NM, ∃ C fI : Addr, mg nm = some (.ref C) ∧ PySem.CutX.CutTxt PP K C D fI ∧ ExcC K C ∧ XfC K C ∧ PySem.W.findIn K (.ref C) "value" = some none ∧ PySem.W.kitOne K (.type "NoneType") (.ref C) = some false ∧ PySem.W.exmOne K (.ref C) (.ref D) = some true := by
    refine ⟨D_, PySem.W.mg_of X G a_D, fun nm hnm => ?_⟩
    simp only [NM, List.mem_cons, List.not_mem_nil, or_false] at hnm
    subst hnm
    exact ⟨C_InvalidCoins, fI_, PySem.W.mg_of X G a_InvalidCoins, ⟨⟨nm_InvalidCoins, q_InvalidCoins, N_InvalidCoins, bs_InvalidCoins, bm_InvalidCoins, sn_InvalidCoins, sub_InvalidCoins, ab_InvalidCoins, col_InvalidCoins, dd_InvalidCoins, k0_InvalidCoins, k1_InvalidCoins, k2_InvalidCoins, k3_InvalidCoins, k5_InvalidCoins, x_lInvalidCoins, x_rInvalidCoins⟩, x_saInvalidCoins, x_nvInvalidCoins, x_inInvalidCoins, i_ty, x_kpInvalidCoins, x_exInvalidCoins, x_tyInvalidCoins, x_veInvalidCoins, x_mDInvalidCoins, x_spInvalidCoins, n_tp, d_cls, n_su, p_top, ⟨_, _, _, _, _, _, _, _, _, _, _, _, _, _, _, _, _, _, i_lk, i_cd, i_ca, i_vs, i_fl, i_cc⟩⟩, ⟨x_gaInvalidCoins, x_ggInvalidCoins, x_exInvalidCoins, x_hdInvalidCoins, x_clInvalidCoins, n_sp, n_tk, x_moInvalidCoins⟩, ⟨x_gaInvalidCoins, x_ggInvalidCoins, x_exInvalidCoins, x_hdInvalidCoins⟩, x_nvInvalidCoins, x_koInvalidCoins, PySem.W.exm_ref d_ex d_hd d_ty x_sDInvalidCoins⟩
  have T : Txt PP K mg := { n_abs := PySem.W.mg_none_of X G z_abs, n_all := PySem.W.mg_none_of X G z_all, n_bool := PySem.W.mg_none_of X G z_bool, n_int := PySem.W.mg_none_of X G z_int, n_isinstance := PySem.W.mg_none_of X G z_isinstance, n_len := PySem.W.mg_none_of X G z_len, n_list := PySem.W.mg_none_of X G z_list, n_max := PySem.W.mg_none_of X G z_max, n_min := PySem.W.mg_none_of X G z_min, n_range := PySem.W.mg_none_of X G z_range, n_repr := PySem.W.mg_none_of X G z_repr, n_set := PySem.W.mg_none_of X G z_set, n_sorted := PySem.W.mg_none_of X G z_sorted, n_tuple := PySem.W.mg_none_of X G z_tuple, n_zip := PySem.W.mg_none_of X G z_zip, v_MOST_COIN := ⟨_, PySem.W.mg_of X G v_MOST_COIN⟩, v_MOST_COINS := ⟨_, PySem.W.mg_of X G v_MOST_COINS⟩, cls := CL }
  have F__law_well := fun_mk (st := st__law_well) l__law_well c__law_well k__law_well
  have b__law_well := F__law_well.binds (ps := ["script", "k"]) fun _ _ _ _ _ _ us hl => match us, hl with | [_, _], _ => rfl
  have g__law_well := PySem.W.mg_of X G a__law_well
  have F__law_draw := fun_mk (st := st__law_draw) l__law_draw c__law_draw k__law_draw
  have b__law_draw := F__law_draw.binds (ps := ["well", "many"]) fun _ _ _ _ _ _ us hl => match us, hl with | [_, _], _ => rfl
  have g__law_draw := PySem.W.mg_of X G a__law_draw
  have F__law_coins := fun_mk (st := st__law_coins) l__law_coins c__law_coins k__law_coins
  have b__law_coins := F__law_coins.binds (ps := ["well"]) fun _ _ _ _ _ _ us hl => match us, hl with | [_], _ => rfl
  have g__law_coins := PySem.W.mg_of X G a__law_coins
  have F__law_fewest := fun_mk (st := st__law_fewest) l__law_fewest c__law_fewest k__law_fewest
  have b__law_fewest := F__law_fewest.binds (ps := ["coins", "n"]) fun _ _ _ _ _ _ us hl => match us, hl with | [_, _], _ => rfl
  have g__law_fewest := PySem.W.mg_of X G a__law_fewest
  have F_is_integer := fun_mk (st := st_is_integer) l_is_integer c_is_integer k_is_integer
  have b_is_integer := F_is_integer.binds (ps := ["value"]) fun _ _ _ _ _ _ us hl => match us, hl with | [_], _ => rfl
  have g_is_integer := PySem.W.mg_of X G a_is_integer
  have F_is_between := fun_mk (st := st_is_between) l_is_between c_is_between k_is_between
  have b_is_between := F_is_between.binds (ps := ["value", "low", "high"]) fun _ _ _ _ _ _ us hl => match us, hl with | [_, _, _], _ => rfl
  have g_is_between := PySem.W.mg_of X G a_is_between
  have F_are_coins := fun_mk (st := st_are_coins) l_are_coins c_are_coins k_are_coins
  have b_are_coins := F_are_coins.binds (ps := ["value"]) fun _ _ _ _ _ _ us hl => match us, hl with | [_], _ => rfl
  have g_are_coins := PySem.W.mg_of X G a_are_coins
  have F_anew := fun_mk (st := st_anew) l_anew c_anew k_anew
  have b_anew := F_anew.binds (ps := ["value"]) fun _ _ _ _ _ _ us hl => match us, hl with | [_], _ => rfl
  have g_anew := PySem.W.mg_of X G a_anew
  have F_need_coins := fun_mk (st := st_need_coins) l_need_coins c_need_coins k_need_coins
  have b_need_coins := F_need_coins.binds (ps := ["coins"]) fun _ _ _ _ _ _ us hl => match us, hl with | [_], _ => rfl
  have g_need_coins := PySem.W.mg_of X G a_need_coins
  have F_fewest_to := fun_mk (st := st_fewest_to) l_fewest_to c_fewest_to k_fewest_to
  have b_fewest_to := F_fewest_to.binds (ps := ["coins", "n"]) fun _ _ _ _ _ _ us hl => match us, hl with | [_, _], _ => rfl
  have g_fewest_to := PySem.W.mg_of X G a_fewest_to
  have F_round_table := fun_mk (st := st_round_table) l_round_table c_round_table k_round_table
  have b_round_table := F_round_table.binds (ps := ["coins"]) fun _ _ _ _ _ _ us hl => match us, hl with | [_], _ => rfl
  have g_round_table := PySem.W.mg_of X G a_round_table
  have F_fewest_table := fun_mk (st := st_fewest_table) l_fewest_table c_fewest_table k_fewest_table
  have b_fewest_table := F_fewest_table.binds (ps := ["coins"]) fun _ _ _ _ _ _ us hl => match us, hl with | [_], _ => rfl
  have g_fewest_table := PySem.W.mg_of X G a_fewest_table
  have F_least_count := fun_mk (st := st_least_count) l_least_count c_least_count k_least_count
  have b_least_count := F_least_count.binds (ps := ["coins", "n"]) fun _ _ _ _ _ _ us hl => match us, hl with | [_, _], _ => rfl
  have g_least_count := PySem.W.mg_of X G a_least_count
  have F_fewest := fun_mk (st := st_fewest) l_fewest c_fewest k_fewest
  have b_fewest := F_fewest.binds (ps := ["coins", "n"]) fun _ _ _ _ _ _ us hl => match us, hl with | [_, _], _ => rfl
  have g_fewest := PySem.W.mg_of X G a_fewest
  have F__law_refused := fun_mk (st := st__law_refused) l__law_refused c__law_refused k__law_refused
  have b__law_refused := F__law_refused.binds (ps := ["coins"]) fun _ _ _ _ _ _ us hl => match us, hl with | [_], _ => rfl
  have g__law_refused := PySem.W.mg_of X G a__law_refused
  have F__law_is_table := fun_mk (st := st__law_is_table) l__law_is_table c__law_is_table k__law_is_table
  have b__law_is_table := F__law_is_table.binds (ps := ["told", "coins", "rows"]) fun _ _ _ _ _ _ us hl => match us, hl with | [_, _, _], _ => rfl
  have g__law_is_table := PySem.W.mg_of X G a__law_is_table
  have F_law := fun_mk (st := st_law) l_law c_law k_law
  have g_law := PySem.W.mg_of X G a_law
  refine ⟨PySem.W.fnOf "law" "law" (defArgs st_law) (defBody st_law) (defScope st_law) .none kV_law dc_law pm_law an_law cd_law ct_law, fun s u => .of_eq rfl, fun base _ _ => ?_⟩
  have o__law_well := ok__law_well (w := w) (base := base) T F__law_well
  have t__law_well_ : CalT PP w K mg base 2 "_law_well" 2 G44.F__law_well := ⟨f__law_well, _, ["script", "k"], rfl, o__law_well, g__law_well, F__law_well.kp, b__law_well⟩
  have o__law_draw := ok__law_draw (w := w) (base := base) T F__law_draw
  have t__law_draw_ : CalT PP w K mg base 2 "_law_draw" 2 G44.F__law_draw := ⟨f__law_draw, _, ["well", "many"], rfl, o__law_draw, g__law_draw, F__law_draw.kp, b__law_draw⟩
  have o__law_coins := ok__law_coins (w := w) (base := base) T t__law_draw_ F__law_coins
  have t__law_coins_ : CalT PP w K mg base 3 "_law_coins" 1 G44.F__law_coins := ⟨f__law_coins, _, ["well"], rfl, o__law_coins, g__law_coins, F__law_coins.kp, b__law_coins⟩
  have o__law_fewest := ok__law_fewest (w := w) (base := base) T F__law_fewest
  have t__law_fewest_ : CalT PP w K mg base 2 "_law_fewest" 2 G44.F__law_fewest := ⟨f__law_fewest, _, ["coins", "n"], rfl, o__law_fewest, g__law_fewest, F__law_fewest.kp, b__law_fewest⟩
  have o_is_integer := ok_is_integer (w := w) (base := base) T F_is_integer
  have t_is_integer_ : CalT PP w K mg base 2 "is_integer" 1 G44.F_is_integer := ⟨f_is_integer, _, ["value"], rfl, o_is_integer, g_is_integer, F_is_integer.kp, b_is_integer⟩
  have o_is_between := ok_is_between (w := w) (base := base) T t_is_integer_ F_is_between
  have t_is_between_ : CalT PP w K mg base 3 "is_between" 3 G44.F_is_between := ⟨f_is_between, _, ["value", "low", "high"], rfl, o_is_between, g_is_between, F_is_between.kp, b_is_between⟩
  have o_are_coins := ok_are_coins (w := w) (base := base) T t_is_between_ F_are_coins
  have t_are_coins_ : CalT PP w K mg base 4 "are_coins" 1 G44.F_are_coins := ⟨f_are_coins, _, ["value"], rfl, o_are_coins, g_are_coins, F_are_coins.kp, b_are_coins⟩
  have o_anew := (ok_anew (w := w) (base := base) T F_anew g_anew b_anew LV).mono (by decide : _ ≤ 14)
  have t_anew_ : CalT PP w K mg base 14 "anew" 1 (G44.F_anew LV) := ⟨f_anew, _, ["value"], rfl, o_anew, g_anew, F_anew.kp, b_anew⟩
  have o_need_coins := ok_need_coins (w := w) (base := base) T t_anew_ t_are_coins_ F_need_coins
  have t_need_coins_ : CalT PP w K mg base 15 "need_coins" 1 G44.F_need_coins := ⟨f_need_coins, _, ["coins"], rfl, o_need_coins, g_need_coins, F_need_coins.kp, b_need_coins⟩
  have o_fewest_to := ok_fewest_to (w := w) (base := base) T F_fewest_to
  have t_fewest_to_ : CalT PP w K mg base 2 "fewest_to" 2 G44.F_fewest_to := ⟨f_fewest_to, _, ["coins", "n"], rfl, o_fewest_to, g_fewest_to, F_fewest_to.kp, b_fewest_to⟩
  have o_round_table := ok_round_table (w := w) (base := base) T t_fewest_to_ F_round_table
  have t_round_table_ : CalT PP w K mg base 3 "round_table" 1 G44.F_round_table := ⟨f_round_table, _, ["coins"], rfl, o_round_table, g_round_table, F_round_table.kp, b_round_table⟩
  have o_fewest_table := ok_fewest_table (w := w) (base := base) T t_anew_ t_need_coins_ t_round_table_ F_fewest_table
  have t_fewest_table_ : CalT PP w K mg base 16 "fewest_table" 1 G44.F_fewest_table := ⟨f_fewest_table, _, ["coins"], rfl, o_fewest_table, g_fewest_table, F_fewest_table.kp, b_fewest_table⟩
  have kw_fewest_table_0_coins : CalKT PP w K mg base 16 "fewest_table" 1 G44.F_fewest_table 0 ["coins"] [0] := ⟨f_fewest_table, _, ["coins"], rfl, o_fewest_table, g_fewest_table, F_fewest_table.kp, fun us ws hu hw => match us, ws, hu, hw with | [], [_], _, _ => by first | rfl | kernel_rfl⟩
  have o_least_count := ok_least_count (w := w) (base := base) T t_fewest_to_ F_least_count
  have t_least_count_ : CalT PP w K mg base 3 "least_count" 2 G44.F_least_count := ⟨f_least_count, _, ["coins", "n"], rfl, o_least_count, g_least_count, F_least_count.kp, b_least_count⟩
  have o_fewest := ok_fewest (w := w) (base := base) T t_least_count_ t_need_coins_ F_fewest
  have t_fewest_ : CalT PP w K mg base 16 "fewest" 2 G44.F_fewest := ⟨f_fewest, _, ["coins", "n"], rfl, o_fewest, g_fewest, F_fewest.kp, b_fewest⟩
  have kw_fewest_0_n_coins : CalKT PP w K mg base 16 "fewest" 2 G44.F_fewest 0 ["n", "coins"] [1, 0] := ⟨f_fewest, _, ["coins", "n"], rfl, o_fewest, g_fewest, F_fewest.kp, fun us ws hu hw => match us, ws, hu, hw with | [], [_, _], _, _ => by first | rfl | kernel_rfl⟩
  have o__law_refused := ok__law_refused (w := w) (base := base) T t_fewest_table_ F__law_refused
  have t__law_refused_ : CalT PP w K mg base 17 "_law_refused" 1 G44.F__law_refused := ⟨f__law_refused, _, ["coins"], rfl, o__law_refused, g__law_refused, F__law_refused.kp, b__law_refused⟩
  have o__law_is_table := ok__law_is_table (w := w) (base := base) T F__law_is_table
  have t__law_is_table_ : CalT PP w K mg base 2 "_law_is_table" 3 G44.F__law_is_table := ⟨f__law_is_table, _, ["told", "coins", "rows"], rfl, o__law_is_table, g__law_is_table, F__law_is_table.kp, b__law_is_table⟩
  have o_law := ok_law (w := w) (base := base) T t__law_coins_ t__law_draw_ t__law_fewest_ t__law_is_table_ t__law_refused_ t__law_well_ t_fewest_ t_fewest_table_ kw_fewest_0_n_coins kw_fewest_table_0_coins F_law
  exact o_law.imp (top_imp plain_law)
end G44
open PySem PySem.W PyProof.Rows L2.DL in
set_option maxRecDepth 100000 in
set_option maxHeartbeats 0 in
theorem PySem.Challenge.cw_cutswhole_k44_fewest_coins_holds : PySem.Challenge.rw_cutswhole_k44_fewest_coins.Holds := by
  w_on; o_law; k_head; (case hw => w_witness2)
  k_fill
  refine L2.walk_ofG (l := PySem.Challenge.rw_cutswhole_k44_fewest_coins) (n := 63) (k := 18) (x := "script") (CX := fun w => L2.CX G44.PP w) (sp := fun _ => spLawTop) rfl (by decide) rfl ⟨rfl, by decide, by decide⟩ ?hNl (fun w h Y => PySem.W.kIn_of Y) ?hFF (fun w H a ns hl _ hS => ⟨a, ns, rfl, hS, hl, fun _ => rfl⟩) (fun _ _ _ _ _ z => cx_no z)
  case hNl => intro w; first | rfl | kernel_rfl | decide +kernel
  case hFF =>
    intro w mg fa h KX G hmg
    refine' G44.all_mk KX G hmg ?a__law_well ?l__law_well ?c__law_well ?k__law_well ?a__law_draw ?l__law_draw ?c__law_draw ?k__law_draw ?a__law_coins ?l__law_coins ?c__law_coins ?k__law_coins ?a__law_fewest ?l__law_fewest ?c__law_fewest ?k__law_fewest ?a_is_integer ?l_is_integer ?c_is_integer ?k_is_integer ?a_is_between ?l_is_between ?c_is_between ?k_is_between ?a_are_coins ?l_are_coins ?c_are_coins ?k_are_coins ?a_anew ?l_anew ?c_anew ?k_anew ?a_need_coins ?l_need_coins ?c_need_coins ?k_need_coins ?a_fewest_to ?l_fewest_to ?c_fewest_to ?k_fewest_to ?a_round_table ?l_round_table ?c_round_table ?k_round_table ?a_fewest_table ?l_fewest_table ?c_fewest_table ?k_fewest_table ?a_least_count ?l_least_count ?c_least_count ?k_least_count ?a_fewest ?l_fewest ?c_fewest ?k_fewest ?a__law_refused ?l__law_refused ?c__law_refused ?k__law_refused ?a__law_is_table ?l__law_is_table ?c__law_is_table ?k__law_is_table ?a_law ?l_law ?c_law ?k_law ?z_abs ?z_all ?z_bool ?z_int ?z_isinstance ?z_len ?z_list ?z_max ?z_min ?z_range ?z_repr ?z_set ?z_sorted ?z_tuple ?z_zip ?v_MOST_COIN ?v_MOST_COINS ?a_D ?d_cls ?d_ex ?d_hd ?d_ty ?n_tp ?n_su ?n_sp ?n_tk ?p_top ?a_InvalidCoins ?x_lInvalidCoins ?x_rInvalidCoins ?x_saInvalidCoins ?x_gaInvalidCoins ?x_ggInvalidCoins ?x_nvInvalidCoins ?x_inInvalidCoins ?x_clInvalidCoins ?x_kpInvalidCoins ?x_exInvalidCoins ?x_veInvalidCoins ?x_tyInvalidCoins ?x_hdInvalidCoins ?x_mDInvalidCoins ?x_moInvalidCoins ?x_spInvalidCoins ?x_koInvalidCoins ?x_sDInvalidCoins ?i_lk ?i_cd ?i_ca ?i_vs ?i_fl ?i_cc ?i_ty
    (case a__law_well => first | k_is | rfl | kernel_rfl | decide +kernel)
    (case l__law_well => first | k_is | rfl | kernel_rfl | decide +kernel)
    (case c__law_well => first | k_is | rfl | kernel_rfl | decide +kernel)
    (case k__law_well => first | k_is | rfl | kernel_rfl | decide +kernel)
    (case a__law_draw => first | k_is | rfl | kernel_rfl | decide +kernel)
    (case l__law_draw => first | k_is | rfl | kernel_rfl | decide +kernel)
    (case c__law_draw => first | k_is | rfl | kernel_rfl | decide +kernel)
    (case k__law_draw => first | k_is | rfl | kernel_rfl | decide +kernel)
    (case a__law_coins => first | k_is | rfl | kernel_rfl | decide +kernel)
    (case l__law_coins => first | k_is | rfl | kernel_rfl | decide +kernel)
    (case c__law_coins => first | k_is | rfl | kernel_rfl | decide +kernel)
    (case k__law_coins => first | k_is | rfl | kernel_rfl | decide +kernel)
    (case a__law_fewest => first | k_is | rfl | kernel_rfl | decide +kernel)
    (case l__law_fewest => first | k_is | rfl | kernel_rfl | decide +kernel)
    (case c__law_fewest => first | k_is | rfl | kernel_rfl | decide +kernel)
    (case k__law_fewest => first | k_is | rfl | kernel_rfl | decide +kernel)
    (case a_is_integer => first | k_is | rfl | kernel_rfl | decide +kernel)
    (case l_is_integer => first | k_is | rfl | kernel_rfl | decide +kernel)
    (case c_is_integer => first | k_is | rfl | kernel_rfl | decide +kernel)
    (case k_is_integer => first | k_is | rfl | kernel_rfl | decide +kernel)
    (case a_is_between => first | k_is | rfl | kernel_rfl | decide +kernel)
    (case l_is_between => first | k_is | rfl | kernel_rfl | decide +kernel)
    (case c_is_between => first | k_is | rfl | kernel_rfl | decide +kernel)
    (case k_is_between => first | k_is | rfl | kernel_rfl | decide +kernel)
    (case a_are_coins => first | k_is | rfl | kernel_rfl | decide +kernel)
    (case l_are_coins => first | k_is | rfl | kernel_rfl | decide +kernel)
    (case c_are_coins => first | k_is | rfl | kernel_rfl | decide +kernel)
    (case k_are_coins => first | k_is | rfl | kernel_rfl | decide +kernel)
    (case a_anew => first | k_is | rfl | kernel_rfl | decide +kernel)
    (case l_anew => first | k_is | rfl | kernel_rfl | decide +kernel)
    (case c_anew => first | k_is | rfl | kernel_rfl | decide +kernel)
    (case k_anew => first | k_is | rfl | kernel_rfl | decide +kernel)
    (case a_need_coins => first | k_is | rfl | kernel_rfl | decide +kernel)
    (case l_need_coins => first | k_is | rfl | kernel_rfl | decide +kernel)
    (case c_need_coins => first | k_is | rfl | kernel_rfl | decide +kernel)
    (case k_need_coins => first | k_is | rfl | kernel_rfl | decide +kernel)
    (case a_fewest_to => first | k_is | rfl | kernel_rfl | decide +kernel)
    (case l_fewest_to => first | k_is | rfl | kernel_rfl | decide +kernel)
    (case c_fewest_to => first | k_is | rfl | kernel_rfl | decide +kernel)
    (case k_fewest_to => first | k_is | rfl | kernel_rfl | decide +kernel)
    (case a_round_table => first | k_is | rfl | kernel_rfl | decide +kernel)
    (case l_round_table => first | k_is | rfl | kernel_rfl | decide +kernel)
    (case c_round_table => first | k_is | rfl | kernel_rfl | decide +kernel)
    (case k_round_table => first | k_is | rfl | kernel_rfl | decide +kernel)
    (case a_fewest_table => first | k_is | rfl | kernel_rfl | decide +kernel)
    (case l_fewest_table => first | k_is | rfl | kernel_rfl | decide +kernel)
    (case c_fewest_table => first | k_is | rfl | kernel_rfl | decide +kernel)
    (case k_fewest_table => first | k_is | rfl | kernel_rfl | decide +kernel)
    (case a_least_count => first | k_is | rfl | kernel_rfl | decide +kernel)
    (case l_least_count => first | k_is | rfl | kernel_rfl | decide +kernel)
    (case c_least_count => first | k_is | rfl | kernel_rfl | decide +kernel)
    (case k_least_count => first | k_is | rfl | kernel_rfl | decide +kernel)
    (case a_fewest => first | k_is | rfl | kernel_rfl | decide +kernel)
    (case l_fewest => first | k_is | rfl | kernel_rfl | decide +kernel)
    (case c_fewest => first | k_is | rfl | kernel_rfl | decide +kernel)
    (case k_fewest => first | k_is | rfl | kernel_rfl | decide +kernel)
    (case a__law_refused => first | k_is | rfl | kernel_rfl | decide +kernel)
    (case l__law_refused => first | k_is | rfl | kernel_rfl | decide +kernel)
    (case c__law_refused => first | k_is | rfl | kernel_rfl | decide +kernel)
    (case k__law_refused => first | k_is | rfl | kernel_rfl | decide +kernel)
    (case a__law_is_table => first | k_is | rfl | kernel_rfl | decide +kernel)
    (case l__law_is_table => first | k_is | rfl | kernel_rfl | decide +kernel)
    (case c__law_is_table => first | k_is | rfl | kernel_rfl | decide +kernel)
    (case k__law_is_table => first | k_is | rfl | kernel_rfl | decide +kernel)
    (case a_law => first | k_is | rfl | kernel_rfl | decide +kernel)
    (case l_law => first | k_is | rfl | kernel_rfl | decide +kernel)
    (case c_law => first | k_is | rfl | kernel_rfl | decide +kernel)
    (case k_law => first | k_is | rfl | kernel_rfl | decide +kernel)
    (case z_abs => first | k_is | rfl | kernel_rfl | decide +kernel)
    (case z_all => first | k_is | rfl | kernel_rfl | decide +kernel)
    (case z_bool => first | k_is | rfl | kernel_rfl | decide +kernel)
    (case z_int => first | k_is | rfl | kernel_rfl | decide +kernel)
    (case z_isinstance => first | k_is | rfl | kernel_rfl | decide +kernel)
    (case z_len => first | k_is | rfl | kernel_rfl | decide +kernel)
    (case z_list => first | k_is | rfl | kernel_rfl | decide +kernel)
    (case z_max => first | k_is | rfl | kernel_rfl | decide +kernel)
    (case z_min => first | k_is | rfl | kernel_rfl | decide +kernel)
    (case z_range => first | k_is | rfl | kernel_rfl | decide +kernel)
    (case z_repr => first | k_is | rfl | kernel_rfl | decide +kernel)
    (case z_set => first | k_is | rfl | kernel_rfl | decide +kernel)
    (case z_sorted => first | k_is | rfl | kernel_rfl | decide +kernel)
    (case z_tuple => first | k_is | rfl | kernel_rfl | decide +kernel)
    (case z_zip => first | k_is | rfl | kernel_rfl | decide +kernel)
    (case v_MOST_COIN => first | k_is | rfl | kernel_rfl | decide +kernel)
    (case v_MOST_COINS => first | k_is | rfl | kernel_rfl | decide +kernel)
    (case a_D => first | k_is | rfl | kernel_rfl | decide +kernel)
    (case d_cls => first | k_is | rfl | kernel_rfl | decide +kernel)
    (case d_ex => first | k_is | rfl | kernel_rfl | decide +kernel)
    (case d_hd => first | k_is | rfl | kernel_rfl | decide +kernel)
    (case d_ty => first | k_is | rfl | kernel_rfl | decide +kernel)
    (case n_tp => first | k_is | rfl | kernel_rfl | decide +kernel)
    (case n_su => first | k_is | rfl | kernel_rfl | decide +kernel)
    (case n_sp => first | k_is | rfl | kernel_rfl | decide +kernel)
    (case n_tk => first | k_is | rfl | kernel_rfl | decide +kernel)
    (case p_top => first | k_is | rfl | kernel_rfl | decide +kernel)
    (case a_InvalidCoins => first | k_is | rfl | kernel_rfl | decide +kernel)
    (case x_lInvalidCoins => first | k_is | rfl | kernel_rfl | decide +kernel)
    (case x_rInvalidCoins => first | k_is | rfl | kernel_rfl | decide +kernel)
    (case x_saInvalidCoins => first | k_is | rfl | kernel_rfl | decide +kernel)
    (case x_gaInvalidCoins => first | k_is | rfl | kernel_rfl | decide +kernel)
    (case x_ggInvalidCoins => first | k_is | rfl | kernel_rfl | decide +kernel)
    (case x_nvInvalidCoins => first | k_is | rfl | kernel_rfl | decide +kernel)
    (case x_inInvalidCoins => first | k_is | rfl | kernel_rfl | decide +kernel)
    (case x_clInvalidCoins => first | k_is | rfl | kernel_rfl | decide +kernel)
    (case x_kpInvalidCoins => first | k_is | rfl | kernel_rfl | decide +kernel)
    (case x_exInvalidCoins => first | k_is | rfl | kernel_rfl | decide +kernel)
    (case x_veInvalidCoins => first | k_is | rfl | kernel_rfl | decide +kernel)
    (case x_tyInvalidCoins => first | k_is | rfl | kernel_rfl | decide +kernel)
    (case x_hdInvalidCoins => first | k_is | rfl | kernel_rfl | decide +kernel)
    (case x_mDInvalidCoins => first | k_is | rfl | kernel_rfl | decide +kernel)
    (case x_moInvalidCoins => first | k_is | rfl | kernel_rfl | decide +kernel)
    (case x_spInvalidCoins => first | k_is | rfl | kernel_rfl | decide +kernel)
    (case x_koInvalidCoins => first | k_is | rfl | kernel_rfl | decide +kernel)
    (case x_sDInvalidCoins => first | k_is | rfl | kernel_rfl | decide +kernel)
    (case i_lk => first | k_is | rfl | kernel_rfl | decide +kernel)
    (case i_cd => first | k_is | rfl | kernel_rfl | decide +kernel)
    (case i_ca => first | k_is | rfl | kernel_rfl | decide +kernel)
    (case i_vs => first | k_is | rfl | kernel_rfl | decide +kernel)
    (case i_fl => first | k_is | rfl | kernel_rfl | decide +kernel)
    (case i_cc => first | k_is | rfl | kernel_rfl | decide +kernel)
    (case i_ty => first | k_is | rfl | kernel_rfl | decide +kernel)
#print axioms PySem.Challenge.cw_cutswhole_k44_fewest_coins_holds
end
